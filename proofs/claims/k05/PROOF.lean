import PyProof.Rows.All
import Wide.All
import OpenK.AllK
import Wide.FinOn
import HandS.ForMost
import HandS.Style
import HandS.Defaults
import HandS.IsInst
import HandS.SetFor
import HandS.More
import KE.KStateDown
import HandS.SortInts
import HandS.Head0
import HandS.Head1
import HandS.Head2
import HandS.HeadEnd
import HandS.HeadHook1
import HandS.HeadHook2
import PySem.Challenge.RW_campcarry_k05_sacks_of_an_amount
import Lean
import HandS.Ends
import HandS.Words
import HandS.WordsExc
set_option Elab.async false
set_option linter.all false
set_option maxRecDepth 100000
set_option maxHeartbeats 4000000
/-! Values instead of heaps: each expression and statement of a def is given a plain function on slots that hold data. -/
namespace Cm
open PySem L2

theorem same_tup {K : PySem.W.Frag} {H H' : Hp} {a : Addr} {xs : List V} (e : Same H H') (h : SqT K H a xs) : SqT K H' a xs := by
  rcases h with (h | ⟨o, h⟩) | h
  · exact .inl (.inl (e _ _ h))
  · exact .inl (.inr ⟨o, e _ _ h⟩)
  · exact .inr h
mutual
/-- a value that reads as data; its lists are tracked -/
inductive Dv (K : PySem.W.Frag) (H : Hp) : V → PyData → Prop
  | non : Dv K H .non .none
  | bl (b : Bool) : Dv K H (.bl b) (.bool b)
  | int (i : Int) : Dv K H (.int i) (.int i)
  | str (x : Str) : Dv K H (.str x) (.str x)
  | lst {a : Addr} {xs : List V} {ds : List PyData} : H a = some (.lst xs) → DvAll K H xs ds → Dv K H (.ref a) (.list ds)
  | tup {a : Addr} {xs : List V} {ds : List PyData} : SqT K H a xs → DvAll K H xs ds → Dv K H (.ref a) (.tuple ds)
inductive DvAll (K : PySem.W.Frag) (H : Hp) : List V → List PyData → Prop
  | nil : DvAll K H [] []
  | cons {v : V} {vs : List V} {d : PyData} {ds : List PyData} : Dv K H v d → DvAll K H vs ds → DvAll K H (v :: vs) (d :: ds)
end
mutual
theorem Dv.dp {K : PySem.W.Frag} {H : Hp} : ∀ (d : PyData) (v : V), Dv K H v d → Dp K H v d
  | .none, _, h => by cases h; exact .non
  | .bool b, _, h => by cases h; exact .bl b
  | .int i, _, h => by cases h; exact .int i
  | .str x, _, h => by cases h; exact .str x
  | .list ds, _, h => by
    cases h with
    | lst hs ha => exact .lst (SqL.of hs) (DvAll.dp ds _ ha)
  | .tuple ds, _, h => by
    cases h with
    | tup hs ha => exact .tup hs (DvAll.dp ds _ ha)
  | .dict _, _, h => by cases h
theorem DvAll.dp {K : PySem.W.Frag} {H : Hp} : ∀ (ds : List PyData) (vs : List V), DvAll K H vs ds → DpAll K H vs ds
  | [], _, h => by cases h; exact .nil
  | d :: ds, _, h => by
    cases h with
    | cons h1 h2 => exact .cons (Dv.dp d _ h1) (DvAll.dp ds _ h2)
end
mutual
theorem dv_mono {K : PySem.W.Frag} {H H' : Hp} (e : Same H H') : ∀ (d : PyData) (v : V), Dv K H v d → Dv K H' v d
  | .none, _, h => by cases h; exact .non
  | .bool b, _, h => by cases h; exact .bl b
  | .int i, _, h => by cases h; exact .int i
  | .str x, _, h => by cases h; exact .str x
  | .list ds, _, h => by
    cases h with
    | lst hs ha => exact .lst (e _ _ hs) (dvAll_mono e ds _ ha)
  | .tuple ds, _, h => by
    cases h with
    | tup hs ha => exact .tup (same_tup e hs) (dvAll_mono e ds _ ha)
  | .dict _, _, h => by cases h
theorem dvAll_mono {K : PySem.W.Frag} {H H' : Hp} (e : Same H H') : ∀ (ds : List PyData) (vs : List V), DvAll K H vs ds → DvAll K H' vs ds
  | [], _, h => by cases h; exact .nil
  | d :: ds, _, h => by
    cases h with
    | cons h1 h2 => exact .cons (dv_mono e d _ h1) (dvAll_mono e ds _ h2)
end
theorem DvAll.len {K : PySem.W.Frag} {H : Hp} : ∀ {vs : List V} {ds : List PyData}, DvAll K H vs ds → vs.length = ds.length
  | _, _, .nil => rfl
  | _, _, .cons _ h => by
    have := DvAll.len h
    simp [this]
theorem DvAll.get {K : PySem.W.Frag} {H : Hp} : ∀ {vs : List V} {ds : List PyData}, DvAll K H vs ds → ∀ (i : Nat) (d : PyData), ds[i]? = some d → ∃ v, vs[i]? = some v ∧ Dv K H v d
  | _, _, .nil, i, d, h => by simp at h
  | _, _, .cons h1 h2, 0, d, h => by
    simp at h
    subst h
    exact ⟨_, rfl, h1⟩
  | _, _, .cons h1 h2, i + 1, d, h => by
    obtain ⟨v, e, q⟩ := DvAll.get h2 i d (by simpa using h)
    exact ⟨v, by simpa using e, q⟩
theorem DvAll.append {K : PySem.W.Frag} {H : Hp} : ∀ {vs ws : List V} {ds es : List PyData}, DvAll K H vs ds → DvAll K H ws es → DvAll K H (vs ++ ws) (ds ++ es)
  | _, _, _, _, .nil, h => h
  | _, _, _, _, .cons h1 h2, h => .cons h1 (DvAll.append h2 h)
theorem DvAll.set {K : PySem.W.Frag} {H : Hp} {v : V} {d : PyData} (q : Dv K H v d) : ∀ {vs : List V} {ds : List PyData} (i : Nat), DvAll K H vs ds → DvAll K H (vs.set i v) (ds.set i d)
  | _, _, _, .nil => .nil
  | _, _, 0, .cons _ h2 => .cons q h2
  | _, _, i + 1, .cons h1 h2 => .cons h1 (DvAll.set q i h2)
theorem DvAll.take {K : PySem.W.Frag} {H : Hp} : ∀ {vs : List V} {ds : List PyData} (n : Nat), DvAll K H vs ds → DvAll K H (vs.take n) (ds.take n)
  | _, _, 0, _ => .nil
  | _, _, _ + 1, .nil => .nil
  | _, _, n + 1, .cons h1 h2 => .cons h1 (DvAll.take n h2)
theorem DvAll.drop {K : PySem.W.Frag} {H : Hp} : ∀ {vs : List V} {ds : List PyData} (n : Nat), DvAll K H vs ds → DvAll K H (vs.drop n) (ds.drop n)
  | _, _, 0, h => h
  | _, _, _ + 1, .nil => .nil
  | _, _, n + 1, .cons h1 h2 => DvAll.drop n h2
theorem DvAll.rev {K : PySem.W.Frag} {H : Hp} : ∀ {vs : List V} {ds : List PyData}, DvAll K H vs ds → DvAll K H vs.reverse ds.reverse
  | _, _, .nil => .nil
  | _, _, .cons h1 h2 => by
    rw [List.reverse_cons, List.reverse_cons]
    exact DvAll.append (DvAll.rev h2) (.cons h1 .nil)
theorem DvAll.erase {K : PySem.W.Frag} {H : Hp} : ∀ {vs : List V} {ds : List PyData} (i : Nat), DvAll K H vs ds → DvAll K H (vs.eraseIdx i) (ds.eraseIdx i)
  | _, _, _, .nil => .nil
  | _, _, 0, .cons _ h2 => h2
  | _, _, i + 1, .cons h1 h2 => .cons h1 (DvAll.erase i h2)

/-- what a mutable name holds -/
inductive Cell where
  | lst (ds : List PyData)
inductive Slot where
  | no
  | val (d : PyData)
  | own (c : Cell)
  | io (k : Nat) (c : Cell)
  | scr (ns : List Int)
abbrev Sl := List Slot
inductive Res where
  | dat (d : PyData)
  | new (c : Cell)
  | slt (i : Nat)
def Slot.mut : Slot → Prop
  | .own _ => True
  | .io _ _ => True
  | _ => False
def CellAt (K : PySem.W.Frag) (Hk H : Hp) (a : Addr) : Cell → Prop
  | .lst ds => ∃ vs, H a = some (.lst vs) ∧ DvAll K Hk vs ds
theorem CellAt.mono {K : PySem.W.Frag} {Hk Hk' H H' : Hp} {a : Addr} {c : Cell} (h : CellAt K Hk H a c) (e : Same Hk Hk') (k : ∀ o, H a = some o → H' a = some o) : CellAt K Hk' H' a c := by
  cases c with
  | lst ds =>
    obtain ⟨vs, h1, h2⟩ := h
    exact ⟨vs, k _ h1, dvAll_mono e _ _ h2⟩
theorem CellAt.there {K : PySem.W.Frag} {Hk H : Hp} {a : Addr} {c : Cell} (h : CellAt K Hk H a c) : ∃ o, H a = some o := by
  cases c with
  | lst ds =>
    obtain ⟨vs, h1, h2⟩ := h
    exact ⟨_, h1⟩

/-- what stood at the frame's beginning: known, all, and the cells that may be changed -/
structure Fb where
  K0 : Hp
  H0 : Hp
  A : Nat → Option Addr
/-- the cells that may be changed -/
def Fb.io (B : Fb) (a : Addr) : Prop := ∃ k, B.A k = some a
def SlotOk (K : PySem.W.Frag) (B : Fb) (Hk H : Hp) (s : Slot) (o : Option V) : Prop := match s with
  | .no => True
  | .val d => ∃ v, o = some v ∧ Dv K Hk v d
  | .own c => ∃ a, o = some (.ref a) ∧ Hk a = none ∧ B.H0 a = none ∧ CellAt K Hk H a c
  | .io k c => ∃ a, o = some (.ref a) ∧ Hk a = none ∧ B.A k = some a ∧ CellAt K Hk H a c
  | .scr ns => ∃ a, o = some (.ref a) ∧ SqL K Hk a (ns.map V.int)
structure Rel (K : PySem.W.Frag) (B : Fb) (env : Sl) (σ : St) (Hk H : Hp) : Prop where
  ex : Same Hk H
  kn : Same B.K0 Hk
  fr : ∀ a, Hk a ≠ none → B.K0 a = none → B.H0 a = none
  kp : ∀ a o, B.H0 a = some o → ¬ B.io a → H a = some o
  oin : ∀ a, B.io a → H a ≠ none ∧ Hk a = none
  o0 : ∀ a, B.io a → B.H0 a ≠ none
  len : env.length = σ.length
  slot : ∀ (i : Nat) s, env[i]? = some s → ∃ o, σ[i]? = some o ∧ SlotOk K B Hk H s o
  sep : ∀ (i j : Nat) s t a, env[i]? = some s → env[j]? = some t → s.mut → t.mut → σ[i]? = some (some (V.ref a)) → σ[j]? = some (some (V.ref a)) → i = j
def ResOk (K : PySem.W.Frag) (B : Fb) (env : Sl) (σ : St) (Hk H : Hp) (r : Res) (v : V) : Prop := match r with
  | .dat d => Dv K Hk v d
  | .new c => ∃ a, v = .ref a ∧ Hk a = none ∧ B.H0 a = none ∧ CellAt K Hk H a c ∧ ∀ (j : Nat) s, env[j]? = some s → s.mut → σ[j]? ≠ some (some (V.ref a))
  | .slt i => σ[i]? = some (some v)

section
variable {K : PySem.W.Frag} {B : Fb} {env : Sl} {σ : St} {Hk Hk' H H' : Hp}
theorem ne_none {H : Hp} {a : Addr} {o : HO} (h : H a = some o) : H a ≠ none := by rw [h]; exact fun z => nomatch z
/-- more is known, all stays -/
theorem Rel.grow (R : Rel K B env σ Hk H) (e : Same Hk Hk') (e' : Same Hk' H') (s : Same H H') (f : ∀ a, Hk' a ≠ none → Hk a = none → H a = none) : Rel K B env σ Hk' H' where
  ex := e'
  kn := R.kn.trans e
  fr := fun a h1 h2 => by
    by_cases q : Hk a = none
    · have hn := f a h1 q
      cases hb : B.H0 a with
      | none => rfl
      | some o =>
        by_cases ho : B.io a
        · exact absurd hn (R.oin a ho).1
        · rw [R.kp a o hb ho] at hn
          cases hn
    · exact R.fr a q h2
  kp := fun a o h1 h2 => s a o (R.kp a o h1 h2)
  oin := fun a h => by
    obtain ⟨h1, h2⟩ := R.oin a h
    obtain ⟨o, ho⟩ := Option.ne_none_iff_exists'.mp h1
    refine ⟨ne_none (s a o ho), ?_⟩
    cases q : Hk' a with
    | none => rfl
    | some u => exact absurd (f a (ne_none q) h2) h1
  o0 := R.o0
  len := R.len
  slot := fun i t h => by
    obtain ⟨o, h1, h2⟩ := R.slot i t h
    refine ⟨o, h1, ?_⟩
    have fresh : ∀ a c, Hk a = none → CellAt K Hk H a c → Hk' a = none := fun a c z w => by
      obtain ⟨u, hu⟩ := w.there
      cases q : Hk' a with
      | none => rfl
      | some x => exact absurd (f a (ne_none q) z) (ne_none hu)
    cases t with
    | no => trivial
    | val d =>
      obtain ⟨v, e1, q⟩ := h2
      exact ⟨v, e1, dv_mono e d v q⟩
    | scr ns =>
      obtain ⟨a, e1, q⟩ := h2
      exact ⟨a, e1, e.seq q⟩
    | own c =>
      obtain ⟨a, e1, q1, q2, q3⟩ := h2
      exact ⟨a, e1, fresh a c q1 q3, q2, q3.mono e fun o => s a o⟩
    | io k c =>
      obtain ⟨a, e1, q1, q2, q3⟩ := h2
      exact ⟨a, e1, fresh a c q1 q3, q2, q3.mono e fun o => s a o⟩
  sep := R.sep
theorem Rel.fresh0 (R : Rel K B env σ Hk H) {p : Addr} (h : H p = none) : B.H0 p = none := by
  cases hb : B.H0 p with
  | none => rfl
  | some o =>
    by_cases ho : B.io p
    · exact absurd h (R.oin p ho).1
    · rw [R.kp p o hb ho] at h
      cases h
theorem same_upd {H : Hp} {p : Addr} {o : HO} (h : H p = none) : Same H (upd H p o) := fun b x e => by
  rw [upd_ne (ne_of_none e h)]
  exact e
theorem Rel.kfree (R : Rel K B env σ Hk H) {p : Addr} (h : H p = none) : Hk p = none := R.ex.free h
/-- a new object is laid, not known -/
theorem Rel.laid (R : Rel K B env σ Hk H) {p : Addr} {o : HO} (h : H p = none) : Rel K B env σ Hk (upd H p o) :=
  R.grow (Same.refl _) (R.ex.trans (same_upd h)) (same_upd h) fun a h1 h2 => absurd h2 h1
theorem upd_known {H : Hp} {p a : Addr} {o : HO} (h : upd H p o a ≠ none) (h2 : H a = none) : a = p := by
  by_cases e : a = p
  · exact e
  · rw [upd_ne e] at h
    exact absurd h2 h
/-- a new object is laid and known -/
theorem Rel.laidK (R : Rel K B env σ Hk H) {p : Addr} {o : HO} (h : H p = none) : Rel K B env σ (upd Hk p o) (upd H p o) :=
  R.grow (same_upd (R.kfree h)) (fun b x e => by
    by_cases hb : b = p
    · subst hb
      rw [upd_same] at e ⊢
      exact e
    · rw [upd_ne hb] at e ⊢
      exact R.ex _ _ e) (same_upd h) fun a h1 h2 => by
    rw [upd_known h1 h2]
    exact h
theorem Rel.mutNe (R : Rel K B env σ Hk H) {p : Addr} (h : H p = none) {j : Nat} {s : Slot} (hs : env[j]? = some s) (hm : s.mut) : σ[j]? ≠ some (some (V.ref p)) := fun e => by
  obtain ⟨o, h1, h2⟩ := R.slot j s hs
  rw [e] at h1
  cases h1
  cases s with
  | no => cases hm
  | val d => cases hm
  | scr ns => cases hm
  | own c =>
    obtain ⟨a, e1, q1, q2, q3⟩ := h2
    obtain ⟨u, hu⟩ := q3.there
    cases e1
    rw [h] at hu
    cases hu
  | io k c =>
    obtain ⟨a, e1, q1, q2, q3⟩ := h2
    obtain ⟨u, hu⟩ := q3.there
    cases e1
    rw [h] at hu
    cases hu

/-! ### what an operation hands back -/
/-- dat: nothing is made, or a tuple; new: a list is made -/
def Out (K : PySem.W.Frag) (Hk H : Hp) (r : Res) (v : V) (H' : Hp) : Prop := match r with
  | .dat d => (H' = H ∧ Dv K Hk v d) ∨ ∃ p vs ds, d = .tuple ds ∧ v = .ref p ∧ H p = none ∧ H' = upd H p (.tup vs) ∧ DvAll K Hk vs ds
  | .new (.lst ds) => ∃ p vs, v = .ref p ∧ H p = none ∧ H' = upd H p (.lst vs) ∧ DvAll K Hk vs ds
  | .slt _ => False
theorem Rel.out (R : Rel K B env σ Hk H) {r : Res} {v : V} (o : Out K Hk H r v H') : ∃ Hk', Rel K B env σ Hk' H' ∧ Same Hk Hk' ∧ ResOk K B env σ Hk' H' r v := by
  cases r with
  | dat d =>
    rcases o with ⟨rfl, q⟩ | ⟨p, vs, ds, rfl, rfl, hp, rfl, q⟩
    · exact ⟨Hk, R, Same.refl _, q⟩
    · refine ⟨upd Hk p (.tup vs), R.laidK hp, same_upd (R.kfree hp), ?_⟩
      exact .tup (SqT.of upd_same) (dvAll_mono (same_upd (R.kfree hp)) _ _ q)
  | new c =>
    cases c with
    | lst ds =>
      obtain ⟨p, vs, rfl, hp, rfl, q⟩ := o
      exact ⟨Hk, R.laid hp, Same.refl _, p, rfl, R.kfree hp, R.fresh0 hp, ⟨vs, upd_same, q⟩, fun j s h1 h2 => R.mutNe hp h1 h2⟩
  | slt i => exact False.elim o
/-- a cell of its own becomes known -/
theorem Rel.know (R : Rel K B env σ Hk H) {p : Addr} {vs : List V} (h : H p = some (.lst vs)) (hk : Hk p = none) (h0 : B.H0 p = none)
    (hn : ∀ (j : Nat) s, env[j]? = some s → s.mut → σ[j]? ≠ some (some (V.ref p))) : Rel K B env σ (upd Hk p (.lst vs)) H where
  ex := fun b x e => by
    by_cases hb : b = p
    · subst hb
      rw [upd_same] at e
      cases e
      exact h
    · rw [upd_ne hb] at e
      exact R.ex _ _ e
  kn := R.kn.trans (same_upd hk)
  fr := fun a h1 h2 => by
    by_cases hb : a = p
    · rw [hb]
      exact h0
    · rw [upd_ne hb] at h1
      exact R.fr a h1 h2
  kp := R.kp
  oin := fun a ha => by
    refine ⟨(R.oin a ha).1, ?_⟩
    have ne : a ≠ p := fun e => R.o0 a ha (by rw [e]; exact h0)
    rw [upd_ne ne]
    exact (R.oin a ha).2
  o0 := R.o0
  len := R.len
  slot := fun i t hi => by
    obtain ⟨o, h1, h2⟩ := R.slot i t hi
    refine ⟨o, h1, ?_⟩
    have sm : Same Hk (upd Hk p (.lst vs)) := same_upd hk
    cases t with
    | no => trivial
    | val d =>
      obtain ⟨v, e1, q⟩ := h2
      exact ⟨v, e1, dv_mono sm d v q⟩
    | scr ns =>
      obtain ⟨a, e1, q⟩ := h2
      exact ⟨a, e1, sm.seq q⟩
    | own c =>
      obtain ⟨a, e1, q1, q2, q3⟩ := h2
      have ne : a ≠ p := fun z => by
        subst e1 z
        exact hn i _ hi trivial h1
      exact ⟨a, e1, by rw [upd_ne ne]; exact q1, q2, q3.mono sm fun o z => z⟩
    | io k c =>
      obtain ⟨a, e1, q1, q2, q3⟩ := h2
      have ne : a ≠ p := fun z => by
        subst e1 z
        exact hn i _ hi trivial h1
      exact ⟨a, e1, by rw [upd_ne ne]; exact q1, q2, q3.mono sm fun o z => z⟩
  sep := R.sep
/-- a slot's own cell becomes known -/
theorem set_get {α : Type} {l : List α} {i j : Nat} {x y : α} (h : (l.set i x)[j]? = some y) : (j = i ∧ y = x) ∨ (j ≠ i ∧ l[j]? = some y) := by
  by_cases e : i = j
  · subst e
    by_cases hl : i < l.length
    · rw [List.getElem?_set_self hl] at h
      exact .inl ⟨rfl, (Option.some.inj h).symm⟩
    · rw [List.getElem?_eq_none (by rw [List.length_set]; omega)] at h
      cases h
  · rw [List.getElem?_set_ne e] at h
    exact .inr ⟨fun z => e z.symm, h⟩
theorem Rel.freeze (R : Rel K B env σ Hk H) {i : Nat} {ds : List PyData} (h : env[i]? = some (.own (.lst ds))) :
    ∃ a Hk', σ[i]? = some (some (V.ref a)) ∧ Rel K B (env.set i (.val (.list ds))) σ Hk' H ∧ Same Hk Hk' ∧ Dv K Hk' (.ref a) (.list ds) := by
  obtain ⟨o, h1, a, rfl, q1, q2, vs, q3, q4⟩ := R.slot i _ h
  have sm : Same Hk (upd Hk a (.lst vs)) := same_upd q1
  have dp : Dv K (upd Hk a (.lst vs)) (.ref a) (.list ds) := .lst upd_same (dvAll_mono sm _ _ q4)
  refine ⟨a, upd Hk a (.lst vs), h1, ?_, sm, dp⟩
  refine ⟨?_, R.kn.trans sm, ?_, R.kp, ?_, R.o0, ?_, ?_, ?_⟩
  · intro b x e
    by_cases hb : b = a
    · subst hb
      rw [upd_same] at e
      cases e
      exact q3
    · rw [upd_ne hb] at e
      exact R.ex _ _ e
  · intro b g1 g2
    by_cases hb : b = a
    · rw [hb]
      exact q2
    · rw [upd_ne hb] at g1
      exact R.fr b g1 g2
  · intro b hb
    have ne : b ≠ a := fun e => R.o0 b hb (by rw [e]; exact q2)
    rw [upd_ne ne]
    exact R.oin b hb
  · rw [List.length_set]
    exact R.len
  · intro j t hj
    rcases set_get hj with ⟨rfl, rfl⟩ | ⟨hne, hj⟩
    · exact ⟨_, h1, _, rfl, dp⟩
    · obtain ⟨o, g1, g2⟩ := R.slot j t hj
      refine ⟨o, g1, ?_⟩
      have nea : ∀ b, t.mut → o = some (.ref b) → b ≠ a := fun b hm e z => by
        subst e z
        exact hne (R.sep j i t _ b hj h hm trivial g1 h1)
      cases t with
      | no => trivial
      | val d =>
        obtain ⟨v, e1, q⟩ := g2
        exact ⟨v, e1, dv_mono sm d v q⟩
      | scr ns =>
        obtain ⟨a, e1, q⟩ := g2
        exact ⟨a, e1, sm.seq q⟩
      | own c =>
        obtain ⟨b, e1, z1, z2, z3⟩ := g2
        exact ⟨b, e1, by rw [upd_ne (nea b trivial e1)]; exact z1, z2, z3.mono sm fun o z => z⟩
      | io k c =>
        obtain ⟨b, e1, z1, z2, z3⟩ := g2
        exact ⟨b, e1, by rw [upd_ne (nea b trivial e1)]; exact z1, z2, z3.mono sm fun o z => z⟩
  · intro j k s t b hj hk ms mt g1 g2
    rcases set_get hj with ⟨rfl, rfl⟩ | ⟨_, hj⟩
    · cases ms
    · rcases set_get hk with ⟨rfl, rfl⟩ | ⟨_, hk⟩
      · cases mt
      · exact R.sep j k s t b hj hk ms mt g1 g2
/-- a name takes a value: known data -/
theorem Rel.setVal (R : Rel K B env σ Hk H) {i : Nat} {v : V} {d : PyData} (h : Dv K Hk v d) : Rel K B (env.set i (.val d)) (σ.set i (some v)) Hk H where
  ex := R.ex
  kn := R.kn
  fr := R.fr
  kp := R.kp
  oin := R.oin
  o0 := R.o0
  len := by rw [List.length_set, List.length_set]; exact R.len
  slot := fun j t hj => by
    rcases set_get hj with ⟨rfl, rfl⟩ | ⟨hne, hj'⟩
    · have hl : j < σ.length := by
        have := (List.getElem?_eq_some_iff.mp hj).1
        rw [List.length_set] at this
        rw [← R.len]
        exact this
      exact ⟨some v, by rw [List.getElem?_set_self hl], v, rfl, h⟩
    · obtain ⟨o, g1, g2⟩ := R.slot j t hj'
      exact ⟨o, by rw [List.getElem?_set_ne (fun z => hne z.symm)]; exact g1, g2⟩
  sep := fun j k s t b hj hk ms mt g1 g2 => by
    rcases set_get hj with ⟨rfl, rfl⟩ | ⟨n1, hj⟩
    · cases ms
    · rcases set_get hk with ⟨rfl, rfl⟩ | ⟨n2, hk⟩
      · cases mt
      · rw [List.getElem?_set_ne (fun z => n1 z.symm)] at g1
        rw [List.getElem?_set_ne (fun z => n2 z.symm)] at g2
        exact R.sep j k s t b hj hk ms mt g1 g2
/-- .. nothing that is told -/
theorem Rel.setNo (R : Rel K B env σ Hk H) {i : Nat} {o : Option V} : Rel K B (env.set i .no) (σ.set i o) Hk H where
  ex := R.ex
  kn := R.kn
  fr := R.fr
  kp := R.kp
  oin := R.oin
  o0 := R.o0
  len := by rw [List.length_set, List.length_set]; exact R.len
  slot := fun j t hj => by
    rcases set_get hj with ⟨rfl, rfl⟩ | ⟨hne, hj'⟩
    · have hl : j < σ.length := by
        have := (List.getElem?_eq_some_iff.mp hj).1
        rw [List.length_set] at this
        rw [← R.len]
        exact this
      exact ⟨o, by rw [List.getElem?_set_self hl], trivial⟩
    · obtain ⟨o, g1, g2⟩ := R.slot j t hj'
      exact ⟨o, by rw [List.getElem?_set_ne (fun z => hne z.symm)]; exact g1, g2⟩
  sep := fun j k s t b hj hk ms mt g1 g2 => by
    rcases set_get hj with ⟨rfl, rfl⟩ | ⟨n1, hj⟩
    · cases ms
    · rcases set_get hk with ⟨rfl, rfl⟩ | ⟨n2, hk⟩
      · cases mt
      · rw [List.getElem?_set_ne (fun z => n1 z.symm)] at g1
        rw [List.getElem?_set_ne (fun z => n2 z.symm)] at g2
        exact R.sep j k s t b hj hk ms mt g1 g2
/-- .. a new cell -/
theorem Rel.setOwn (R : Rel K B env σ Hk H) {i : Nat} {a : Addr} {c : Cell} (h1 : Hk a = none) (h2 : B.H0 a = none) (h3 : CellAt K Hk H a c) (h4 : ∀ (j : Nat) s, env[j]? = some s → s.mut → σ[j]? ≠ some (some (V.ref a))) :
    Rel K B (env.set i (.own c)) (σ.set i (some (V.ref a))) Hk H where
  ex := R.ex
  kn := R.kn
  fr := R.fr
  kp := R.kp
  oin := R.oin
  o0 := R.o0
  len := by rw [List.length_set, List.length_set]; exact R.len
  slot := fun j t hj => by
    rcases set_get hj with ⟨rfl, rfl⟩ | ⟨hne, hj'⟩
    · have hl : j < σ.length := by
        have := (List.getElem?_eq_some_iff.mp hj).1
        rw [List.length_set] at this
        rw [← R.len]
        exact this
      exact ⟨some (.ref a), by rw [List.getElem?_set_self hl], a, rfl, h1, h2, h3⟩
    · obtain ⟨o, g1, g2⟩ := R.slot j t hj'
      exact ⟨o, by rw [List.getElem?_set_ne (fun z => hne z.symm)]; exact g1, g2⟩
  sep := fun j k s t b hj hk ms mt g1 g2 => by
    rcases set_get hj with ⟨rfl, rfl⟩ | ⟨n1, hj2⟩
    · rcases set_get hk with ⟨rfl, rfl⟩ | ⟨n2, hk⟩
      · rfl
      · rw [List.getElem?_set_ne (fun z => n2 z.symm)] at g2
        rcases set_get g1 with ⟨_, e⟩ | ⟨z, _⟩
        · cases e
          exact absurd g2 (h4 k t hk mt)
        · exact absurd rfl z
    · rw [List.getElem?_set_ne (fun z => n1 z.symm)] at g1
      rcases set_get hk with ⟨rfl, rfl⟩ | ⟨n2, hk⟩
      · rcases set_get g2 with ⟨_, e⟩ | ⟨z, _⟩
        · cases e
          exact absurd g1 (h4 j s hj2 ms)
        · exact absurd rfl z
      · rw [List.getElem?_set_ne (fun z => n2 z.symm)] at g2
        exact R.sep j k s t b hj2 hk ms mt g1 g2
/-- a cell of a name is changed -/
def Slot.put : Slot → Cell → Slot
  | .own _, c => .own c
  | .io k _, c => .io k c
  | s, _ => s
theorem Rel.change (R : Rel K B env σ Hk H) {i : Nat} {s : Slot} {c c' : Cell} {a : Addr} {o' : HO} (hs : env[i]? = some s) (hm : s.mut) (ha : σ[i]? = some (some (V.ref a))) (h3 : CellAt K Hk (upd H a o') a c') :
    Rel K B (env.set i (s.put c')) σ Hk (upd H a o') := by
  obtain ⟨o, h1, h2⟩ := R.slot i s hs
  rw [ha] at h1
  cases h1
  have hk : Hk a = none := by
    cases s with
    | no => cases hm
    | val d => cases hm
    | scr ns => cases hm
    | own c => obtain ⟨b, e1, q1, _⟩ := h2; cases e1; exact q1
    | io k c => obtain ⟨b, e1, q1, _⟩ := h2; cases e1; exact q1
  have h0 : B.H0 a = none ∨ B.io a := by
    cases s with
    | no => cases hm
    | val d => cases hm
    | scr ns => cases hm
    | own c => obtain ⟨b, e1, _, q1, _⟩ := h2; cases e1; exact .inl q1
    | io k c => obtain ⟨b, e1, _, q1, _⟩ := h2; cases e1; exact .inr ⟨k, q1⟩
  refine ⟨?_, R.kn, R.fr, ?_, ?_, R.o0, ?_, ?_, ?_⟩
  · intro b x e
    have hb : b ≠ a := fun z => by rw [z, hk] at e; cases e
    rw [upd_ne hb]
    exact R.ex _ _ e
  · intro b x e hO
    have hb : b ≠ a := fun z => by
      subst z
      rcases h0 with z | z
      · rw [z] at e; cases e
      · exact hO z
    rw [upd_ne hb]
    exact R.kp b x e hO
  · intro b hb
    refine ⟨?_, (R.oin b hb).2⟩
    by_cases e : b = a
    · rw [e, upd_same]
      exact fun z => nomatch z
    · rw [upd_ne e]
      exact (R.oin b hb).1
  · rw [List.length_set]
    exact R.len
  · intro j t hj
    rcases set_get hj with ⟨rfl, rfl⟩ | ⟨hne, hj⟩
    · refine ⟨_, ha, ?_⟩
      cases s with
      | no => cases hm
      | val d => cases hm
      | scr ns => cases hm
      | own c => obtain ⟨b, e1, q1, q2, _⟩ := h2; cases e1; exact ⟨a, rfl, q1, q2, h3⟩
      | io k c => obtain ⟨b, e1, q1, q2, _⟩ := h2; cases e1; exact ⟨a, rfl, q1, q2, h3⟩
    · obtain ⟨o, g1, g2⟩ := R.slot j t hj
      refine ⟨o, g1, ?_⟩
      have nea : ∀ b, t.mut → o = some (.ref b) → b ≠ a := fun b hmt e z => by
        subst e z
        exact hne (R.sep j i t s b hj hs hmt hm g1 ha)
      cases t with
      | no => trivial
      | val d => exact g2
      | scr ns => exact g2
      | own c =>
        obtain ⟨b, e1, z1, z2, z3⟩ := g2
        exact ⟨b, e1, z1, z2, z3.mono (Same.refl _) fun o z => by rw [upd_ne (nea b trivial e1)]; exact z⟩
      | io k c =>
        obtain ⟨b, e1, z1, z2, z3⟩ := g2
        exact ⟨b, e1, z1, z2, z3.mono (Same.refl _) fun o z => by rw [upd_ne (nea b trivial e1)]; exact z⟩
  · have pm : ∀ {t : Slot} {c : Cell}, (t.put c).mut → t.mut := fun {t c} z => by
      cases t <;> exact z
    intro j k s1 t1 b hj hk' ms mt g1 g2
    rcases set_get hj with ⟨rfl, rfl⟩ | ⟨_, hj2⟩
    · rcases set_get hk' with ⟨rfl, rfl⟩ | ⟨_, hk'⟩
      · rfl
      · exact R.sep j k s t1 b hs hk' hm mt g1 g2
    · rcases set_get hk' with ⟨rfl, rfl⟩ | ⟨_, hk'⟩
      · exact R.sep j k s1 s b hj2 hs ms hm g1 g2
      · exact R.sep j k s1 t1 b hj2 hk' ms mt g1 g2
end
end Cm
namespace Cm
open PySem L2
abbrev ME := Sl → Option (Res × Sl)
abbrev MT := Sl → Option (Bool × Sl)
abbrev MA := Sl → Option (List Res × Sl)
/-- the reading of a value function -/
def tE (K : PySem.W.Frag) (m : ME) : TE := fun σ H Q => ∃ B env Hk r env', Rel K B env σ Hk H ∧ m env = some (r, env') ∧
  ∀ v Hk' H', Rel K B env' σ Hk' H' → Same Hk Hk' → ResOk K B env' σ Hk' H' r v → Q v H'
def tT (K : PySem.W.Frag) (m : MT) : TT := fun σ H Q => ∃ B env Hk b env', Rel K B env σ Hk H ∧ m env = some (b, env') ∧
  ∀ Hk' H', Rel K B env' σ Hk' H' → Same Hk Hk' → Q b H'
def stab : Res → Res
  | .new (.lst ds) => .dat (.list ds)
  | r => r
def RsOk (K : PySem.W.Frag) (σ : St) (Hk : Hp) (r : Res) (v : V) : Prop := match r with
  | .dat d => Dv K Hk v d
  | .slt i => σ[i]? = some (some v)
  | .new _ => False
inductive RsAll (K : PySem.W.Frag) (σ : St) (Hk : Hp) : List Res → List V → Prop
  | nil : RsAll K σ Hk [] []
  | cons {r : Res} {v : V} {rs : List Res} {vs : List V} : RsOk K σ Hk r v → RsAll K σ Hk rs vs → RsAll K σ Hk (r :: rs) (v :: vs)
def tA (K : PySem.W.Frag) (m : MA) : TA := fun σ H Q => ∃ B env Hk rs env', Rel K B env σ Hk H ∧ m env = some (rs, env') ∧
  ∀ vs Hk' H', Rel K B env' σ Hk' H' → Same Hk Hk' → RsAll K σ Hk' rs vs → Q vs H'
section
variable {K : PySem.W.Frag} {B : Fb} {env : Sl} {σ : St} {Hk Hk' H H' : Hp} {r : Res} {v : V} {d : PyData}
theorem RsOk.mono (e : Same Hk Hk') (h : RsOk K σ Hk r v) : RsOk K σ Hk' r v := by
  cases r with
  | dat d => exact dv_mono e d v h
  | slt i => exact h
  | new c => exact h
theorem RsAll.mono (e : Same Hk Hk') : ∀ {rs : List Res} {vs : List V}, RsAll K σ Hk rs vs → RsAll K σ Hk' rs vs
  | _, _, .nil => .nil
  | _, _, .cons h t => .cons (h.mono e) (RsAll.mono e t)
theorem Rel.stab (R : Rel K B env σ Hk H) (h : ResOk K B env σ Hk H r v) : ∃ Hk', Rel K B env σ Hk' H ∧ Same Hk Hk' ∧ RsOk K σ Hk' (stab r) v := by
  cases r with
  | dat d => exact ⟨Hk, R, Same.refl _, h⟩
  | slt i => exact ⟨Hk, R, Same.refl _, h⟩
  | new c =>
    cases c with
    | lst ds =>
      obtain ⟨a, rfl, h1, h2, ⟨vs, h3, h4⟩, h5⟩ := h
      exact ⟨upd Hk a (.lst vs), R.know h3 h1 h2 h5, same_upd h1, .lst upd_same (dvAll_mono (same_upd h1) _ _ h4)⟩
def rdv (env : Sl) : Res → Option PyData
  | .dat d => some d
  | .new _ => none
  | .slt i => match env[i]? with
    | some (.val d) => some d
    | some (.own (.lst ds)) => some (.list ds)
    | some (.io _ (.lst ds)) => some (.list ds)
    | _ => none
/-- how a value is seen now -/
def View (K : PySem.W.Frag) (Hk H : Hp) (v : V) (d : PyData) : Prop := Dv K Hk v d ∨ ∃ a vs ds, v = .ref a ∧ d = .list ds ∧ H a = some (.lst vs) ∧ DvAll K Hk vs ds
theorem Rel.view (R : Rel K B env σ Hk H) (h : RsOk K σ Hk r v) (e : rdv env r = some d) : View K Hk H v d := by
  cases r with
  | dat d' =>
    cases e
    exact .inl h
  | new c => exact False.elim h
  | slt i =>
    have h : σ[i]? = some (some v) := h
    cases q : env[i]? with
    | none =>
      simp only [rdv, q] at e
      cases e
    | some s =>
      obtain ⟨o, h1, h2⟩ := R.slot i s q
      rw [h] at h1
      cases h1
      simp only [rdv, q] at e
      cases s with
      | no => cases e
      | scr ns => cases e
      | val d' =>
        cases e
        obtain ⟨v', e1, z⟩ := h2
        cases e1
        exact .inl z
      | own c =>
        cases c with
        | lst ds =>
          cases e
          obtain ⟨a, e1, q1, q2, vs, q3, q4⟩ := h2
          cases e1
          exact .inr ⟨a, vs, ds, rfl, rfl, q3, q4⟩
      | io k c =>
        cases c with
        | lst ds =>
          cases e
          obtain ⟨a, e1, q1, q2, vs, q3, q4⟩ := h2
          cases e1
          exact .inr ⟨a, vs, ds, rfl, rfl, q3, q4⟩
theorem View.dv (h : View K Hk H v d) (e : Same Hk H) : Dv K H v d := by
  rcases h with h | ⟨a, vs, ds, rfl, rfl, h1, h2⟩
  · exact dv_mono e d v h
  · exact .lst h1 (dvAll_mono e _ _ h2)
theorem View.int {i : Int} (h : View K Hk H v (.int i)) : v = .int i := by
  rcases h with h | ⟨a, vs, ds, rfl, e, _⟩
  · cases h; rfl
  · cases e
theorem View.str {x : Str} (h : View K Hk H v (.str x)) : v = .str x := by
  rcases h with h | ⟨a, vs, ds, rfl, e, _⟩
  · cases h; rfl
  · cases e
theorem View.bool {b : Bool} (h : View K Hk H v (.bool b)) : v = .bl b := by
  rcases h with h | ⟨a, vs, ds, rfl, e, _⟩
  · cases h; rfl
  · cases e
theorem View.non (h : View K Hk H v .none) : v = .non := by
  rcases h with h | ⟨a, vs, ds, rfl, e, _⟩
  · cases h; rfl
  · cases e
theorem View.list {ds : List PyData} (h : View K Hk H v (.list ds)) (e : Same Hk H) : ∃ a vs, v = .ref a ∧ H a = some (.lst vs) ∧ DvAll K Hk vs ds := by
  rcases h with h | ⟨a, vs, ds', rfl, q, h1, h2⟩
  · cases h with
    | lst h1 h2 => exact ⟨_, _, rfl, e _ _ h1, h2⟩
  · cases q
    exact ⟨a, vs, rfl, h1, h2⟩
theorem View.tup {ds : List PyData} (h : View K Hk H v (.tuple ds)) (e : Same Hk H) : ∃ a vs, v = .ref a ∧ SqT K H a vs ∧ DvAll K Hk vs ds := by
  rcases h with h | ⟨a, vs, ds', rfl, q, h1, h2⟩
  · cases h with
    | tup h1 h2 => exact ⟨_, _, rfl, same_tup e h1, h2⟩
  · cases q
end
theorem _root_.L2.PE.imp {X : Cx} {e : Expr} {t t' : TE} (h : PE X e t) (k : ∀ σ H Q, t' σ H Q → t σ H Q) : PE X e t' := ⟨fun pins s σ H Q I q => h.run pins s σ H Q I (k σ H Q q)⟩
theorem _root_.L2.PT.imp {X : Cx} {e : Expr} {t t' : TT} (h : PT X e t) (k : ∀ σ H Q, t' σ H Q → t σ H Q) : PT X e t' := ⟨fun pins s σ H Q I q => h.run pins s σ H Q I (k σ H Q q)⟩
theorem _root_.L2.PW.imp {X : Cx} {e : Expr} {t t' : TT} (h : PW X e t) (k : ∀ σ H Q, t' σ H Q → t σ H Q) : PW X e t' := ⟨fun wh pins s σ H Q I q => h.run wh pins s σ H Q I (k σ H Q q)⟩
theorem _root_.L2.PA.imp {X : Cx} {e : List Expr} {t t' : TA} (h : PA X e t) (k : ∀ σ H Q, t' σ H Q → t σ H Q) : PA X e t' := ⟨fun pos pins s σ H Q I q => h.run pos pins s σ H Q I (k σ H Q q)⟩
abbrev VE (X : Cx) (e : Expr) (m : ME) : Prop := PE X e (tE X.K m)
abbrev VT (X : Cx) (e : Expr) (m : MT) : Prop := PT X e (tT X.K m)
abbrev VW (X : Cx) (e : Expr) (m : MT) : Prop := PW X e (tT X.K m)
abbrev VA (X : Cx) (es : List Expr) (m : MA) : Prop := PA X es (tA X.K m)
/-! ### names, constants -/
def mName (i : Nat) : ME := fun env => match env[i]? with
  | some (.val d) => some (.dat d, env)
  | some (.own _) => some (.slt i, env)
  | some (.io _ _) => some (.slt i, env)
  | some (.scr _) => some (.slt i, env)
  | _ => none
def mC (d : PyData) : ME := fun env => some (.dat d, env)
section
variable {X : Cx} {K : PySem.W.Frag}
theorem name_run {i : Nat} {σ : St} {H : Hp} {Q : VK} (h : tE K (mName i) σ H Q) : tVar i σ H Q := by
  obtain ⟨B, env, Hk, r, env', R, hm, k⟩ := h
  unfold mName at hm
  cases q : env[i]? with
  | none =>
    rw [q] at hm
    cases hm
  | some s =>
    rw [q] at hm
    obtain ⟨o, h1, h2⟩ := R.slot i s q
    cases s with
    | no => cases hm
    | val d =>
      cases hm
      obtain ⟨v, rfl, z⟩ := h2
      exact ⟨v, h1, k v Hk H R (Same.refl _) z⟩
    | own c =>
      cases hm
      obtain ⟨a, rfl, z⟩ := h2
      exact ⟨_, h1, k _ Hk H R (Same.refl _) h1⟩
    | io k c =>
      cases hm
      obtain ⟨a, rfl, z⟩ := h2
      exact ⟨_, h1, k _ Hk H R (Same.refl _) h1⟩
    | scr c =>
      cases hm
      obtain ⟨a, rfl, z⟩ := h2
      exact ⟨_, h1, k _ Hk H R (Same.refl _) h1⟩
theorem ve_name (i : Nat) {x : Str} {pos : Pos} (hN : X.N[i]? = some x := by rfl) (hv : Vis X.env.scope x := by first | exact Or.inl rfl | exact Or.inr (Or.inl rfl) | exact Or.inr (Or.inr rfl)) (hd : (x == ("__debug__" : Str)) = false := by decide)
    (hcd : (x == ("__classdict__" : Str)) = false := by decide) : VE X (.Name x pos) (mName i) := (pe_var hN hv hd hcd).imp fun _ _ _ => name_run
theorem c_run {v : V} {d : PyData} (hd : ∀ Hk, Dv K Hk v d) {σ : St} {H : Hp} {Q : VK} (h : tE K (mC d) σ H Q) : tC v σ H Q := by
  obtain ⟨B, env, Hk, r, env', R, hm, k⟩ := h
  cases hm
  exact k v Hk H R (Same.refl _) (hd Hk)
theorem ve_int {i j pos} : VE X (.Constant (.int i) j pos) (mC (.int i)) := pe_int.imp fun _ _ _ => c_run fun _ => .int i
theorem ve_bl {b j pos} : VE X (.Constant (.bool b) j pos) (mC (.bool b)) := pe_bl.imp fun _ _ _ => c_run fun _ => .bl b
theorem ve_non {j pos} : VE X (.Constant .none j pos) (mC .none) := pe_non.imp fun _ _ _ => c_run fun _ => .non
theorem ve_str {x j pos} : VE X (.Constant (.str x) j pos) (mC (.str x)) := pe_str.imp fun _ _ _ => c_run fun _ => .str x
theorem ve_glob {x : Str} {v : V} {u : Value} {pos : Pos} {d : PyData} (hg : Gl X x) (hm : X.mg x = some u) (r : RelV v u) (hv : ∀ Hk, Dv X.K Hk v d) (hd : (x == ("__debug__" : Str)) = false := by decide) : VE X (.Name x pos) (mC d) :=
  (pe_glob hg hm r hd).imp fun _ _ _ => c_run hv
end
/-! ### freezing -/
def frz : Res × Sl → Option (Res × Sl)
  | (.dat d, e) => some (.dat d, e)
  | (.new (.lst ds), e) => some (.dat (.list ds), e)
  | (.slt i, e) => match e[i]? with
    | some (.val d) => some (.dat d, e)
    | some (.own (.lst ds)) => some (.dat (.list ds), e.set i (.val (.list ds)))
    | _ => none
def mFrz (m : ME) : ME := fun env => (m env).bind frz
section
variable {X : Cx} {K : PySem.W.Frag}
theorem Rel.frz {B : Fb} {env env' : Sl} {σ : St} {Hk H : Hp} {r r' : Res} {v : V} (R : Rel K B env σ Hk H) (o : ResOk K B env σ Hk H r v) (h : Cm.frz (r, env) = some (r', env')) :
    ∃ Hk' d, r' = .dat d ∧ Rel K B env' σ Hk' H ∧ Same Hk Hk' ∧ Dv K Hk' v d := by
  cases r with
  | dat d =>
    cases h
    exact ⟨Hk, d, rfl, R, Same.refl _, o⟩
  | new c =>
    cases c with
    | lst ds =>
      cases h
      obtain ⟨Hk', R', s, q⟩ := R.stab o
      exact ⟨Hk', _, rfl, R', s, q⟩
  | slt i =>
    unfold Cm.frz at h
    have o : σ[i]? = some (some v) := o
    cases q : env[i]? with
    | none => simp only [q] at h; cases h
    | some s =>
      simp only [q] at h
      cases s with
      | no => cases h
      | scr ns => cases h
      | io k c => cases h
      | val d =>
        cases h
        obtain ⟨o', h1, v', e1, z⟩ := R.slot i _ q
        rw [o] at h1
        cases h1
        cases e1
        exact ⟨Hk, d, rfl, R, Same.refl _, z⟩
      | own c =>
        cases c with
        | lst ds =>
          cases h
          obtain ⟨a, Hk', h1, R', s, z⟩ := R.freeze q
          rw [o] at h1
          cases h1
          exact ⟨Hk', _, rfl, R', s, z⟩
theorem frz_run {m : ME} {σ : St} {H : Hp} {Q : VK} (h : tE K (mFrz m) σ H Q) : tE K m σ H Q := by
  obtain ⟨B, env, Hk, r, env', R, hm, k⟩ := h
  obtain ⟨⟨r1, e1⟩, h1, h2⟩ := Option.bind_eq_some_iff.mp hm
  refine ⟨B, env, Hk, r1, e1, R, h1, fun v Hk1 H1 R1 s1 o1 => ?_⟩
  obtain ⟨Hk', d, rfl, R', s', z⟩ := R1.frz o1 h2
  exact k v Hk' H1 R' (s1.trans s') z
theorem ve_frz {e : Expr} {m : ME} (h : VE X e m) : VE X e (mFrz m) := h.imp fun _ _ _ => frz_run
end
/-! ### two operands -/
def OpD (K : PySem.W.Frag) (r : R2) (g : PyData → PyData → Option Res) : Prop := ∀ (Hk H : Hp) (x y : V) (dx dy : PyData) (res : Res) (Q : VK), Same Hk H → View K Hk H x dx → View K Hk H y dy → g dx dy = some res → (∀ v H', Out K Hk H res v H' → Q v H') → r x y H Q
def mOp (g : PyData → PyData → Option Res) (ma mb : ME) : ME := fun env => (ma env).bind fun p => (mb p.2).bind fun q => (rdv q.2 (stab p.1)).bind fun dx => (rdv q.2 (stab q.1)).bind fun dy => (g dx dy).map fun r => (r, q.2)
section
variable {X : Cx} {K : PySem.W.Frag} {g g' : PyData → PyData → Option Res} {r r' : R2} {ma mb mc : ME} {a b c : Expr} {pos : Pos}
theorem op_run (hg : OpD K r g) {σ : St} {H : Hp} {Q : VK} (h : tE K (mOp g ma mb) σ H Q) : tOp r (tE K ma) (tE K mb) σ H Q := by
  obtain ⟨B, env, Hk, res, env', R, hm, k⟩ := h
  obtain ⟨⟨x, e1⟩, h1, hm⟩ := Option.bind_eq_some_iff.mp hm
  obtain ⟨⟨y, e2⟩, h2, hm⟩ := Option.bind_eq_some_iff.mp hm
  obtain ⟨dx, h3, hm⟩ := Option.bind_eq_some_iff.mp hm
  obtain ⟨dy, h4, hm⟩ := Option.bind_eq_some_iff.mp hm
  obtain ⟨res', h5, hm⟩ := Option.map_eq_some_iff.mp hm
  cases hm
  refine ⟨B, env, Hk, x, e1, R, h1, fun v Hk1 H1 R1 s1 o1 => ?_⟩
  obtain ⟨Hk1', R1', s1', o1'⟩ := R1.stab o1
  refine ⟨B, e1, Hk1', y, e2, R1', h2, fun w Hk2 H2 R2 s2 o2 => ?_⟩
  obtain ⟨Hk2', R2', s2', o2'⟩ := R2.stab o2
  refine hg Hk2' H2 v w dx dy res Q R2'.ex (R2'.view ((o1'.mono s2).mono s2') h3) (R2'.view o2' h4) h5 fun z H3 out => ?_
  obtain ⟨Hk3, R3, s3, o3⟩ := R2'.out out
  exact k z Hk3 H3 R3 ((((s1.trans s1').trans s2).trans s2').trans s3) o3
theorem ve_op {op : Operator} (ho : OpR X (binaryOp op) r) (hg : OpD X.K r g) (ha : VE X a ma) (hb : VE X b mb) : VE X (.BinOp a op b pos) (mOp g ma mb) := (pe_op ho ha hb).imp fun _ _ _ => op_run hg
theorem ve_cmp {op : CmpOp} (ho : OpR X (compareOp op) r) (hg : OpD X.K r g) (ha : VE X a ma) (hb : VE X b mb) (hm : behindInMarks op b = false) : VE X (.Compare a [op] [b] pos) (mOp g ma mb) := (pe_cmpR ho ha hb hm).imp fun _ _ _ => op_run hg
theorem ve_ix (hi : IxR X r) (hg : OpD X.K r g) (ha : VE X a ma) (hb : VE X b mb) (hs : PlainIx b) : VE X (.Subscript a b pos) (mOp g ma mb) := (pe_ix hi ha hb hs).imp fun _ _ _ => op_run hg
def mTest (m : ME) : MT := fun env => (m env).bind fun p => match p.1 with
  | .dat (.bool b) => some (b, p.2)
  | _ => none
theorem test_run {m : ME} {σ : St} {H : Hp} {Q : Bool → Hp → Prop} (h : tT K (mTest m) σ H Q) : tE K m σ H fun x H' => ∃ k, x = .bl k ∧ Q k H' := by
  obtain ⟨B, env, Hk, b, env', R, hm, k⟩ := h
  obtain ⟨⟨x, e1⟩, h1, hm⟩ := Option.bind_eq_some_iff.mp hm
  refine ⟨B, env, Hk, x, e1, R, h1, fun v Hk1 H1 R1 s1 o1 => ?_⟩
  cases x with
  | new c => cases hm
  | slt i => cases hm
  | dat d =>
    cases d with
    | bool b' =>
      cases hm
      cases o1
      exact ⟨b, rfl, k Hk1 H1 R1 s1⟩
    | _ => cases hm
theorem vt_cmp {op : CmpOp} (ho : OpR X (compareOp op) r) (hg : OpD X.K r g) (ha : VE X a ma) (hb : VE X b mb) (hm : behindInMarks op b = false) : VT X (.Compare a [op] [b] pos) (mTest (mOp g ma mb)) :=
  (pt_cmpR ho ha hb hm).imp fun _ _ _ h => op_run hg (test_run h)
theorem vt_val {m : ME} (h : VE X a m) (he : ∀ whole, isTrue a X.env whole = (do let v ← whole; standAt a.pos; holding [v] (truthy v)) := by intro _; rfl) : VT X a (mTest m) :=
  (pt_val h he).imp fun _ _ _ h => test_run h
/-- a op b op' c -/
def mChain (g g' : PyData → PyData → Option Res) (ma mb mc : ME) : ME := fun env => (ma env).bind fun p => (mb p.2).bind fun q => (rdv q.2 (stab p.1)).bind fun dx => (rdv q.2 (stab q.1)).bind fun dy => (g dx dy).bind fun r => match r with
  | .dat (.bool true) => (mc q.2).bind fun t => (rdv t.2 (stab q.1)).bind fun dy' => (rdv t.2 (stab t.1)).bind fun dz => (g' dy' dz).map fun r => (r, t.2)
  | .dat (.bool false) => some (.dat (.bool false), q.2)
  | _ => none
theorem chain_run (hg : OpD K r g) (hg' : OpD K r' g') {σ : St} {H : Hp} {Q : VK} (h : tE K (mChain g g' ma mb mc) σ H Q) : tChain r r' (tE K ma) (tE K mb) (tE K mc) σ H Q := by
  obtain ⟨B, env, Hk, res, env', R, hm, k⟩ := h
  obtain ⟨⟨x, e1⟩, h1, hm⟩ := Option.bind_eq_some_iff.mp hm
  obtain ⟨⟨y, e2⟩, h2, hm⟩ := Option.bind_eq_some_iff.mp hm
  obtain ⟨dx, h3, hm⟩ := Option.bind_eq_some_iff.mp hm
  obtain ⟨dy, h4, hm⟩ := Option.bind_eq_some_iff.mp hm
  obtain ⟨res', h5, hm⟩ := Option.bind_eq_some_iff.mp hm
  refine ⟨B, env, Hk, x, e1, R, h1, fun v Hk1 H1 R1 s1 o1 => ?_⟩
  obtain ⟨Hk1', R1', s1', o1'⟩ := R1.stab o1
  refine ⟨B, e1, Hk1', y, e2, R1', h2, fun w Hk2 H2 R2 s2 o2 => ?_⟩
  obtain ⟨Hk2', R2', s2', o2'⟩ := R2.stab o2
  refine hg Hk2' H2 v w dx dy res' _ R2'.ex (R2'.view ((o1'.mono s2).mono s2') h3) (R2'.view o2' h4) h5 fun z H3 out => ?_
  obtain ⟨Hk3, R3, s3, o3⟩ := R2'.out out
  have sm := (((s1.trans s1').trans s2).trans s2').trans s3
  cases res' with
  | new c => cases hm
  | slt i => cases hm
  | dat d =>
    cases d with
    | bool bb =>
      cases o3
      cases bb with
      | false =>
        cases hm
        exact ⟨false, rfl, k _ Hk3 H3 R3 sm (.bl false)⟩
      | true =>
        refine ⟨true, rfl, ?_⟩
        show tE K mc σ H3 _
        obtain ⟨⟨t, e3⟩, h6, hm⟩ := Option.bind_eq_some_iff.mp hm
        obtain ⟨dy', h7, hm⟩ := Option.bind_eq_some_iff.mp hm
        obtain ⟨dz, h8, hm⟩ := Option.bind_eq_some_iff.mp hm
        obtain ⟨res2, h9, hm⟩ := Option.map_eq_some_iff.mp hm
        cases hm
        refine ⟨B, e2, Hk3, t, e3, R3, h6, fun u Hk4 H4 R4 s4 o4 => ?_⟩
        obtain ⟨Hk4', R4', s4', o4'⟩ := R4.stab o4
        refine hg' Hk4' H4 w u dy' dz res Q R4'.ex (R4'.view (((o2'.mono s3).mono s4).mono s4') h7) (R4'.view o4' h8) h9 fun z H5 out => ?_
        obtain ⟨Hk5, R5, s5, o5⟩ := R4'.out out
        exact k z Hk5 H5 R5 (((sm.trans s4).trans s4').trans s5) o5
    | _ => cases hm
theorem ve_chain {op op' : CmpOp} (ho : OpR X (compareOp op) r) (hg : OpD X.K r g) (ho' : OpR X (compareOp op') r') (hg' : OpD X.K r' g') (ha : VE X a ma) (hb : VE X b mb) (hc : VE X c mc)
    (hm : lastMarks [op, op'] [b, c] = false := by with_unfolding_all rfl) : VE X (.Compare a [op, op'] [b, c] pos) (mChain g g' ma mb mc) := (pe_chain ho ho' ha hb hc hm).imp fun _ _ _ => chain_run hg hg'
theorem vt_chain {op op' : CmpOp} (ho : OpR X (compareOp op) r) (hg : OpD X.K r g) (ho' : OpR X (compareOp op') r') (hg' : OpD X.K r' g') (ha : VE X a ma) (hb : VE X b mb) (hc : VE X c mc)
    (hm : lastMarks [op, op'] [b, c] = false := by with_unfolding_all rfl) : VT X (.Compare a [op, op'] [b, c] pos) (mTest (mChain g g' ma mb mc)) := (pt_chain ho ho' ha hb hc hm).imp fun _ _ _ h => chain_run hg hg' (test_run h)
end
/-! ### one operand -/
def UnD (K : PySem.W.Frag) (r : V → Hp → VK → Prop) (g : PyData → Option Res) : Prop := ∀ (Hk H : Hp) (x : V) (dx : PyData) (res : Res) (Q : VK), Same Hk H → View K Hk H x dx → g dx = some res → (∀ v H', Out K Hk H res v H' → Q v H') → r x H Q
def mUn (g : PyData → Option Res) (ma : ME) : ME := fun env => (ma env).bind fun p => (rdv p.2 (stab p.1)).bind fun dx => (g dx).map fun r => (r, p.2)
section
variable {X : Cx} {K : PySem.W.Frag} {g : PyData → Option Res} {r : V → Hp → VK → Prop} {ma mb : ME} {t u : MT} {a b c : Expr} {rest : List Expr} {pos : Pos}
theorem un_run (hg : UnD K r g) {σ : St} {H : Hp} {Q : VK} (h : tE K (mUn g ma) σ H Q) : tUn r (tE K ma) σ H Q := by
  obtain ⟨B, env, Hk, res, env', R, hm, k⟩ := h
  obtain ⟨⟨x, e1⟩, h1, hm⟩ := Option.bind_eq_some_iff.mp hm
  obtain ⟨dx, h3, hm⟩ := Option.bind_eq_some_iff.mp hm
  obtain ⟨res', h5, hm⟩ := Option.map_eq_some_iff.mp hm
  cases hm
  refine ⟨B, env, Hk, x, e1, R, h1, fun v Hk1 H1 R1 s1 o1 => ?_⟩
  obtain ⟨Hk1', R1', s1', o1'⟩ := R1.stab o1
  refine hg Hk1' H1 v dx res Q R1'.ex (R1'.view o1' h3) h5 fun z H3 out => ?_
  obtain ⟨Hk3, R3, s3, o3⟩ := R1'.out out
  exact k z Hk3 H3 R3 ((s1.trans s1').trans s3) o3
theorem ve_un {op : UnaryOp} (ho : UnR X (unaryOp op) r) (hg : UnD X.K r g) (ha : VE X a ma) : VE X (.UnaryOp op a pos) (mUn g ma) := (pe_un ho ha).imp fun _ _ _ => un_run hg
/-! ### tests -/
def mAnd (t u : MT) : MT := fun env => (t env).bind fun p => if p.1 = true then u p.2 else some (false, p.2)
def mOr (t u : MT) : MT := fun env => (t env).bind fun p => if p.1 = true then some (true, p.2) else u p.2
def mNot (t : MT) : MT := fun env => (t env).map fun p => (!p.1, p.2)
theorem and_run {σ : St} {H : Hp} {Q : Bool → Hp → Prop} (h : tT K (mAnd t u) σ H Q) : tAnd (tT K t) (tT K u) σ H Q := by
  obtain ⟨B, env, Hk, b, env', R, hm, k⟩ := h
  obtain ⟨⟨c, e1⟩, h1, hm⟩ := Option.bind_eq_some_iff.mp hm
  refine ⟨B, env, Hk, c, e1, R, h1, fun Hk1 H1 R1 s1 => ?_⟩
  cases c with
  | true => exact ⟨B, e1, Hk1, b, env', R1, hm, fun Hk2 H2 R2 s2 => k Hk2 H2 R2 (s1.trans s2)⟩
  | false =>
    cases hm
    exact k Hk1 H1 R1 s1
theorem or_run {σ : St} {H : Hp} {Q : Bool → Hp → Prop} (h : tT K (mOr t u) σ H Q) : tOr (tT K t) (tT K u) σ H Q := by
  obtain ⟨B, env, Hk, b, env', R, hm, k⟩ := h
  obtain ⟨⟨c, e1⟩, h1, hm⟩ := Option.bind_eq_some_iff.mp hm
  refine ⟨B, env, Hk, c, e1, R, h1, fun Hk1 H1 R1 s1 => ?_⟩
  cases c with
  | false => exact ⟨B, e1, Hk1, b, env', R1, hm, fun Hk2 H2 R2 s2 => k Hk2 H2 R2 (s1.trans s2)⟩
  | true =>
    cases hm
    exact k Hk1 H1 R1 s1
theorem not_run {σ : St} {H : Hp} {Q : Bool → Hp → Prop} (h : tT K (mNot t) σ H Q) : tNot (tT K t) σ H Q := by
  obtain ⟨B, env, Hk, b, env', R, hm, k⟩ := h
  obtain ⟨⟨c, e1⟩, h1, hm⟩ := Option.map_eq_some_iff.mp hm
  cases hm
  exact ⟨B, env, Hk, c, e1, R, h1, k⟩
theorem vw_and1 (ha : VT X a t) : VW X (.BoolOp .And [a] pos) t := pw_and1 ha
theorem vw_or1 (ha : VT X a t) : VW X (.BoolOp .Or [a] pos) t := pw_or1 ha
theorem vw_and (ha : VT X a t) (hb : VW X (.BoolOp .And (b :: rest) pos) u) : VW X (.BoolOp .And (a :: b :: rest) pos) (mAnd t u) := (pw_and ha hb).imp fun _ _ _ => and_run
theorem vw_or (ha : VT X a t) (hb : VW X (.BoolOp .Or (b :: rest) pos) u) : VW X (.BoolOp .Or (a :: b :: rest) pos) (mOr t u) := (pw_or ha hb).imp fun _ _ _ => or_run
theorem vt_w {e : Expr} (h : VW X e t) : VT X e t := PW.pt h
theorem vt_not (ha : VT X a t) : VT X (.UnaryOp .Not a pos) (mNot t) := (pt_not ha).imp fun _ _ _ => not_run
/-! ### the same as values -/
def mAndV (ma mb : ME) : ME := fun env => (ma env).bind fun p => match p.1 with
  | .dat (.bool true) => mb p.2
  | .dat (.bool false) => some (.dat (.bool false), p.2)
  | _ => none
def mOrV (ma mb : ME) : ME := fun env => (ma env).bind fun p => match p.1 with
  | .dat (.bool false) => mb p.2
  | .dat (.bool true) => some (.dat (.bool true), p.2)
  | _ => none
def mNotV (ma : ME) : ME := fun env => (ma env).bind fun p => match p.1 with
  | .dat (.bool b) => some (.dat (.bool (!b)), p.2)
  | _ => none
theorem andV_run {σ : St} {H : Hp} {Q : VK} (h : tE K (mAndV ma mb) σ H Q) : tAndV (tE K ma) (tE K mb) σ H Q := by
  obtain ⟨B, env, Hk, res, env', R, hm, k⟩ := h
  obtain ⟨⟨x, e1⟩, h1, hm⟩ := Option.bind_eq_some_iff.mp hm
  refine ⟨B, env, Hk, x, e1, R, h1, fun v Hk1 H1 R1 s1 o1 => ?_⟩
  cases x with
  | new c => cases hm
  | slt i => cases hm
  | dat d =>
    cases d with
    | bool b =>
      cases o1
      refine ⟨b, rfl, ?_⟩
      cases b with
      | true => exact ⟨B, e1, Hk1, res, env', R1, hm, fun v Hk2 H2 R2 s2 o2 => k v Hk2 H2 R2 (s1.trans s2) o2⟩
      | false =>
        cases hm
        exact k _ Hk1 H1 R1 s1 (.bl false)
    | _ => cases hm
theorem orV_run {σ : St} {H : Hp} {Q : VK} (h : tE K (mOrV ma mb) σ H Q) : tOrV (tE K ma) (tE K mb) σ H Q := by
  obtain ⟨B, env, Hk, res, env', R, hm, k⟩ := h
  obtain ⟨⟨x, e1⟩, h1, hm⟩ := Option.bind_eq_some_iff.mp hm
  refine ⟨B, env, Hk, x, e1, R, h1, fun v Hk1 H1 R1 s1 o1 => ?_⟩
  cases x with
  | new c => cases hm
  | slt i => cases hm
  | dat d =>
    cases d with
    | bool b =>
      cases o1
      refine ⟨b, rfl, ?_⟩
      cases b with
      | false => exact ⟨B, e1, Hk1, res, env', R1, hm, fun v Hk2 H2 R2 s2 o2 => k v Hk2 H2 R2 (s1.trans s2) o2⟩
      | true =>
        cases hm
        exact k _ Hk1 H1 R1 s1 (.bl true)
    | _ => cases hm
theorem notV_run {σ : St} {H : Hp} {Q : VK} (h : tE K (mNotV ma) σ H Q) : tNotV (tE K ma) σ H Q := by
  obtain ⟨B, env, Hk, res, env', R, hm, k⟩ := h
  obtain ⟨⟨x, e1⟩, h1, hm⟩ := Option.bind_eq_some_iff.mp hm
  refine ⟨B, env, Hk, x, e1, R, h1, fun v Hk1 H1 R1 s1 o1 => ?_⟩
  cases x with
  | new c => cases hm
  | slt i => cases hm
  | dat d =>
    cases d with
    | bool b =>
      cases o1
      cases hm
      exact ⟨b, rfl, k _ Hk1 H1 R1 s1 (.bl _)⟩
    | _ => cases hm
theorem ve_one {op} (h : VE X a ma) : VE X (.BoolOp op [a] pos) ma := pe_one h
theorem ve_and (ha : VE X a ma) (hb : VE X (.BoolOp .And (b :: rest) pos) mb) : VE X (.BoolOp .And (a :: b :: rest) pos) (mAndV ma mb) := (pe_and ha hb).imp fun _ _ _ => andV_run
theorem ve_or (ha : VE X a ma) (hb : VE X (.BoolOp .Or (b :: rest) pos) mb) : VE X (.BoolOp .Or (a :: b :: rest) pos) (mOrV ma mb) := (pe_or ha hb).imp fun _ _ _ => orV_run
theorem ve_not (ha : VE X a ma) : VE X (.UnaryOp .Not a pos) (mNotV ma) := (pe_not ha).imp fun _ _ _ => notV_run
def mIf (t : MT) (ma mb : ME) : ME := fun env => (t env).bind fun p => if p.1 = true then ma p.2 else mb p.2
theorem if_run {σ : St} {H : Hp} {Q : VK} (h : tE K (mIf t ma mb) σ H Q) : tIf (tT K t) (tE K ma) (tE K mb) σ H Q := by
  obtain ⟨B, env, Hk, res, env', R, hm, k⟩ := h
  obtain ⟨⟨c, e1⟩, h1, hm⟩ := Option.bind_eq_some_iff.mp hm
  refine ⟨B, env, Hk, c, e1, R, h1, fun Hk1 H1 R1 s1 => ?_⟩
  cases c with
  | true => exact ⟨B, e1, Hk1, res, env', R1, hm, fun v Hk2 H2 R2 s2 o2 => k v Hk2 H2 R2 (s1.trans s2) o2⟩
  | false => exact ⟨B, e1, Hk1, res, env', R1, hm, fun v Hk2 H2 R2 s2 o2 => k v Hk2 H2 R2 (s1.trans s2) o2⟩
theorem ve_if (hc : VT X c t) (ha : VE X a ma) (hb : VE X b mb) : VE X (.IfExp c a b pos) (mIf t ma mb) := (pe_ifExp hc ha hb).imp fun _ _ _ => if_run
end
/-! ### arguments, displays -/
def mNil : MA := fun env => some ([], env)
def mCons (m : ME) (ms : MA) : MA := fun env => (m env).bind fun p => (ms p.2).map fun q => (stab p.1 :: q.1, q.2)
section
variable {X : Cx} {K : PySem.W.Frag} {m : ME} {ms : MA} {e : Expr} {es : List Expr} {pos : Pos}
theorem nil_run {σ : St} {H : Hp} {Q : List V → Hp → Prop} (h : tA K mNil σ H Q) : tNil σ H Q := by
  obtain ⟨B, env, Hk, rs, env', R, hm, k⟩ := h
  cases hm
  exact k [] Hk H R (Same.refl _) .nil
theorem cons_run {σ : St} {H : Hp} {Q : List V → Hp → Prop} (h : tA K (mCons m ms) σ H Q) : tCons (tE K m) (tA K ms) σ H Q := by
  obtain ⟨B, env, Hk, rs, env', R, hm, k⟩ := h
  obtain ⟨⟨x, e1⟩, h1, hm⟩ := Option.bind_eq_some_iff.mp hm
  obtain ⟨⟨xs, e2⟩, h2, hm⟩ := Option.map_eq_some_iff.mp hm
  cases hm
  refine ⟨B, env, Hk, x, e1, R, h1, fun v Hk1 H1 R1 s1 o1 => ?_⟩
  obtain ⟨Hk1', R1', s1', o1'⟩ := R1.stab o1
  refine ⟨B, e1, Hk1', xs, e2, R1', h2, fun vs Hk2 H2 R2 s2 o2 => ?_⟩
  exact k _ Hk2 H2 R2 ((s1.trans s1').trans s2) (.cons (o1'.mono s2) o2)
theorem va_nil : VA X [] mNil := pa_nil.imp fun _ _ _ => nil_run
theorem va_cons (ha : VE X e m) (hr : VA X es ms) (hs : starEach (e :: es) X.env = (false, eval e X.env) :: starEach es X.env := by rfl) : VA X (e :: es) (mCons m ms) := (pa_cons ha hr hs).imp fun _ _ _ => cons_run
/-- all of them data -/
def dats : List Res → Option (List PyData)
  | [] => some []
  | .dat d :: rs => (dats rs).map (d :: ·)
  | _ :: _ => none
theorem RsAll.dats {σ : St} {Hk : Hp} : ∀ {rs : List Res} {vs : List V} {ds : List PyData}, RsAll K σ Hk rs vs → Cm.dats rs = some ds → DvAll K Hk vs ds
  | _, _, _, .nil, h => by
    cases h
    exact .nil
  | .dat d :: rs, _, ds, .cons h1 h2, h => by
    obtain ⟨ds', e1, e2⟩ := Option.map_eq_some_iff.mp h
    subst e2
    exact .cons h1 (RsAll.dats h2 e1)
  | .slt i :: rs, _, ds, .cons h1 h2, h => by cases h
  | .new c :: rs, _, ds, .cons h1 h2, h => by cases h
def mLst (ms : MA) : ME := fun env => (ms env).bind fun p => (dats p.1).bind fun ds => if ds.length ≤ 100000 then some (.new (.lst ds), p.2) else none
def mTup (ms : MA) : ME := fun env => (ms env).bind fun p => (dats p.1).bind fun ds => if ds.length ≤ 100000 then some (.dat (.tuple ds), p.2) else none
theorem sz_of {n : Nat} (h : n ≤ 100000) : n ≤ sizeLine := Nat.le_trans h (by decide)
theorem lst_run {σ : St} {H : Hp} {Q : VK} (h : tE K (mLst ms) σ H Q) : tLst (tA K ms) σ H Q := by
  obtain ⟨B, env, Hk, res, env', R, hm, k⟩ := h
  obtain ⟨⟨rs, e1⟩, h1, hm⟩ := Option.bind_eq_some_iff.mp hm
  obtain ⟨ds, h2, hm⟩ := Option.bind_eq_some_iff.mp hm
  by_cases hl : ds.length ≤ 100000
  · rw [if_pos hl] at hm
    cases hm
    refine ⟨B, env, Hk, rs, e1, R, h1, fun vs Hk1 H1 R1 s1 o1 => ?_⟩
    have da := o1.dats h2
    refine ⟨by rw [da.len]; exact sz_of hl, fun p hp => ?_⟩
    obtain ⟨Hk2, R2, s2, o2⟩ := R1.out (r := .new (.lst ds)) ⟨p, vs, rfl, hp, rfl, da⟩
    exact k _ Hk2 _ R2 (s1.trans s2) o2
  · rw [if_neg hl] at hm
    cases hm
theorem tup_run {σ : St} {H : Hp} {Q : VK} (h : tE K (mTup ms) σ H Q) : tTup (tA K ms) σ H Q := by
  obtain ⟨B, env, Hk, res, env', R, hm, k⟩ := h
  obtain ⟨⟨rs, e1⟩, h1, hm⟩ := Option.bind_eq_some_iff.mp hm
  obtain ⟨ds, h2, hm⟩ := Option.bind_eq_some_iff.mp hm
  by_cases hl : ds.length ≤ 100000
  · rw [if_pos hl] at hm
    cases hm
    refine ⟨B, env, Hk, rs, e1, R, h1, fun vs Hk1 H1 R1 s1 o1 => ?_⟩
    have da := o1.dats h2
    refine ⟨by rw [da.len]; exact sz_of hl, fun p hp => ?_⟩
    obtain ⟨Hk2, R2, s2, o2⟩ := R1.out (r := .dat (.tuple ds)) (.inr ⟨p, vs, ds, rfl, rfl, hp, rfl, da⟩)
    exact k _ Hk2 _ R2 (s1.trans s2) o2
  · rw [if_neg hl] at hm
    cases hm
theorem ve_lst (h : VA X es ms) : VE X (.List es pos) (mLst ms) := (pe_lst h).imp fun _ _ _ => lst_run
theorem ve_tup {x1} (h : VA X es ms) : VE X (.Tuple es x1 pos) (mTup ms) := (pe_tup h).imp fun _ _ _ => tup_run
end
/-! ### built-ins -/
inductive ViewAll (K : PySem.W.Frag) (Hk H : Hp) : List V → List PyData → Prop
  | nil : ViewAll K Hk H [] []
  | cons {v : V} {vs : List V} {d : PyData} {ds : List PyData} : View K Hk H v d → ViewAll K Hk H vs ds → ViewAll K Hk H (v :: vs) (d :: ds)
def rdAll (env : Sl) : List Res → Option (List PyData)
  | [] => some []
  | r :: rs => (rdv env r).bind fun d => (rdAll env rs).map (d :: ·)
section
variable {X : Cx} {K : PySem.W.Frag} {m : ME} {ms : MA} {e o : Expr} {es : List Expr} {pos : Pos}
theorem Rel.views {B : Fb} {env : Sl} {σ : St} {Hk H : Hp} (R : Rel K B env σ Hk H) : ∀ {rs : List Res} {vs : List V} {ds : List PyData}, RsAll K σ Hk rs vs → rdAll env rs = some ds → ViewAll K Hk H vs ds
  | _, _, _, .nil, h => by
    cases h
    exact .nil
  | _, _, ds, .cons h1 h2, h => by
    obtain ⟨d, e1, h⟩ := Option.bind_eq_some_iff.mp h
    obtain ⟨ds', e2, e3⟩ := Option.map_eq_some_iff.mp h
    subst e3
    exact .cons (R.view h1 e1) (Rel.views R h2 e2)
def CallD (K : PySem.W.Frag) (r : List V → Hp → VK → Prop) (g : List PyData → Option Res) : Prop := ∀ (Hk H : Hp) (vs : List V) (ds : List PyData) (res : Res) (Q : VK), Same Hk H → ViewAll K Hk H vs ds → g ds = some res → (∀ v H', Out K Hk H res v H' → Q v H') → r vs H Q
def mCB (g : List PyData → Option Res) (ms : MA) : ME := fun env => (ms env).bind fun p => (rdAll p.2 p.1).bind fun ds => (g ds).map fun r => (r, p.2)
theorem cb_run {r : List V → Hp → VK → Prop} {g : List PyData → Option Res} (hg : CallD K r g) {σ : St} {H : Hp} {Q : VK} (h : tE K (mCB g ms) σ H Q) : tCB r (tA K ms) σ H Q := by
  obtain ⟨B, env, Hk, res, env', R, hm, k⟩ := h
  obtain ⟨⟨rs, e1⟩, h1, hm⟩ := Option.bind_eq_some_iff.mp hm
  obtain ⟨ds, h2, hm⟩ := Option.bind_eq_some_iff.mp hm
  obtain ⟨res', h5, hm⟩ := Option.map_eq_some_iff.mp hm
  cases hm
  refine ⟨B, env, Hk, rs, e1, R, h1, fun vs Hk1 H1 R1 s1 o1 => ?_⟩
  refine hg Hk1 H1 vs ds res Q R1.ex (R1.views o1 h2) h5 fun z H3 out => ?_
  obtain ⟨Hk3, R3, s3, o3⟩ := R1.out out
  exact k z Hk3 H3 R3 (s1.trans s3) o3
theorem ve_callB {x : Str} {p : Pos} {id : String} {r : List V → Hp → VK → Prop} {g : List PyData → Option Res} (hc : CallR X (.builtin id) r) (hG : CallD X.K r g) (hg : Gl X x) (hm : X.mg x = none) (hv : bootBuiltins x = some (.builtin id)) (ha : VA X (e :: es) ms) (hn : x ≠ "__name__" := by decide) (hdb : (x == ("__debug__" : Str)) = false := by decide)
    (he : starEach (e :: es) X.env = (false, eval e X.env) :: starEach es X.env := by rfl) (hpl : (backTo pos (starEach es X.env)).any (·.1) = false := by rfl) : VE X (.Call (.Name x p) (e :: es) [] pos) (mCB g ms) :=
  (pe_callB hc hg hm hv ha hn hdb he hpl).imp fun _ _ _ => cb_run hG
theorem ve_callTy {x : Str} {p : Pos} {T : String} {r : List V → Hp → VK → Prop} {g : List PyData → Option Res} (hc : CallR X (.type T) r) (hG : CallD X.K r g) (hg : Gl X x) (hm : X.mg x = none) (hv : bootBuiltins x = some (.type T)) (ha : VA X (e :: es) ms) (hn : x ≠ "__name__" := by decide) (hdb : (x == ("__debug__" : Str)) = false := by decide)
    (he : starEach (e :: es) X.env = (false, eval e X.env) :: starEach es X.env := by rfl) (hpl : (backTo pos (starEach es X.env)).any (·.1) = false := by rfl) : VE X (.Call (.Name x p) (e :: es) [] pos) (mCB g ms) :=
  (pe_callTy hc hg hm hv ha hn hdb he hpl).imp fun _ _ _ => cb_run hG
/-- a method of a built-in type, the receiver not changed -/
def tyD : String → PyData → Bool
  | T, .str _ => T == "str"
  | T, .int _ => T == "int"
  | T, .list _ => T == "list"
  | _, _ => false
theorem tyD_V {Hk H : Hp} {T : String} {v : V} {d : PyData} (e : Same Hk H) (h : View K Hk H v d) (t : tyD T d = true) : tyV K T v H := by
  cases d with
  | str x => rw [h.str]; exact (beq_iff_eq.mp t)
  | int x => rw [h.int]; exact (beq_iff_eq.mp t)
  | list ds =>
    obtain ⟨a, vs, rfl, h1, h2⟩ := h.list e
    exact .inl ⟨beq_iff_eq.mp t, vs, SqL.of h1⟩
  | none => cases t
  | bool b => cases t
  | tuple b => cases t
  | dict b => cases t
def MtD (K : PySem.W.Frag) (r : V → List V → Hp → VK → Prop) (g : PyData → List PyData → Option Res) : Prop := ∀ (Hk H : Hp) (x : V) (vs : List V) (d : PyData) (ds : List PyData) (res : Res) (Q : VK), Same Hk H → View K Hk H x d → ViewAll K Hk H vs ds → g d ds = some res → (∀ v H', Out K Hk H res v H' → Q v H') → r x vs H Q
def mBM (T : String) (g : PyData → List PyData → Option Res) (mo : ME) (ms : MA) : ME := fun env => (mo env).bind fun o => (rdv o.2 (stab o.1)).bind fun d0 => if tyD T d0 = true then (ms o.2).bind fun p => (rdv p.2 (stab o.1)).bind fun d => (rdAll p.2 p.1).bind fun ds => (g d ds).map fun r => (r, p.2) else none
theorem bm_run {T : String} {r : V → List V → Hp → VK → Prop} {g : PyData → List PyData → Option Res} (hg : MtD K r g) {σ : St} {H : Hp} {Q : VK} (h : tE K (mBM T g m ms) σ H Q) : tBM K T r (tE K m) (tA K ms) σ H Q := by
  obtain ⟨B, env, Hk, res, env', R, hm, k⟩ := h
  obtain ⟨⟨x, e0⟩, h0, hm⟩ := Option.bind_eq_some_iff.mp hm
  obtain ⟨d0, g0, hm⟩ := Option.bind_eq_some_iff.mp hm
  by_cases ht : tyD T d0 = true
  · rw [if_pos ht] at hm
    obtain ⟨⟨rs, e1⟩, h1, hm⟩ := Option.bind_eq_some_iff.mp hm
    obtain ⟨d, h3, hm⟩ := Option.bind_eq_some_iff.mp hm
    obtain ⟨ds, h2, hm⟩ := Option.bind_eq_some_iff.mp hm
    obtain ⟨res', h5, hm⟩ := Option.map_eq_some_iff.mp hm
    cases hm
    refine ⟨B, env, Hk, x, e0, R, h0, fun v Hk1 H1 R1 s1 o1 => ?_⟩
    obtain ⟨Hk1', R1', s1', o1'⟩ := R1.stab o1
    refine ⟨tyD_V R1'.ex (R1'.view o1' g0) ht, ?_⟩
    refine ⟨B, e0, Hk1', rs, e1, R1', h1, fun vs Hk2 H2 R2 s2 o2 => ?_⟩
    refine hg Hk2 H2 v vs d ds res Q R2.ex (R2.view (o1'.mono s2) h3) (R2.views o2 h2) h5 fun z H3 out => ?_
    obtain ⟨Hk3, R3, s3, o3⟩ := R2.out out
    exact k z Hk3 H3 R3 (((s1.trans s1').trans s2).trans s3) o3
  · rw [if_neg ht] at hm
    cases hm
end
end Cm
namespace Cm
open PySem L2
inductive Fl where
  | nx
  | bk
  | ct
  | rt (r : Res)
abbrev MS := Sl → Option (Fl × Sl)
def Fin (K : PySem.W.Frag) (B : Fb) (D : Ends) (f : Fl) (env : Sl) (σ : St) (Hk H : Hp) : Prop := match f with
  | .nx => D.nx σ H
  | .bk => D.bk σ H
  | .ct => D.ct σ H
  | .rt r => ∀ v, ResOk K B env σ Hk H r v → D.rt v H
def tS (K : PySem.W.Frag) (m : MS) : TS := fun D σ H => ∃ B env Hk f env', Rel K B env σ Hk H ∧ m env = some (f, env') ∧
  ∀ σ' Hk' H', Rel K B env' σ' Hk' H' → Same Hk Hk' → Fin K B D f env' σ' Hk' H'
theorem _root_.L2.PS.imp {X : Cx} {e : Stmt} {t t' : TS} (h : PS X e t) (k : ∀ D σ H, t' D σ H → t D σ H) : PS X e t' := ⟨fun pins s σ H D I q => h.run pins s σ H D I (k D σ H q)⟩
theorem _root_.L2.PSs.imp {X : Cx} {e : List Stmt} {t t' : TS} (h : PSs X e t) (k : ∀ D σ H, t' D σ H → t D σ H) : PSs X e t' := ⟨fun pins s σ H D I q => h.run pins s σ H D I (k D σ H q)⟩
theorem _root_.L2.PI.imp {X : Cx} {tg e : Expr} {t t' : TI} (h : PI X tg e t) (k : ∀ σ H R, t' σ H R → t σ H R) : PI X tg e t' := ⟨fun pins s σ H R I q => h.run pins s σ H R I (k σ H R q)⟩
theorem _root_.L2.PG.imp {X : Cx} {e : Expr} {t t' : TG} (h : PG X e t) (k : ∀ v σ H Q, t' v σ H Q → t v σ H Q) : PG X e t' := ⟨fun pins s σ H v u Q I r q => h.run pins s σ H v u Q I r (k v σ H Q q)⟩
theorem _root_.L2.PGs.imp {X : Cx} {e : List Expr} {t t' : TGs} (h : PGs X e t) (k : ∀ v σ H Q, t' v σ H Q → t v σ H Q) : PGs X e t' := ⟨fun pins s σ H v u Q I r q => h.run pins s σ H v u Q I r (k v σ H Q q)⟩
abbrev VS (X : Cx) (s : Stmt) (m : MS) : Prop := PS X s (tS X.K m)
abbrev VSs (X : Cx) (s : List Stmt) (m : MS) : Prop := PSs X s (tS X.K m)
def mSkip : MS := fun env => some (.nx, env)
def mSeq (m n : MS) : MS := fun env => (m env).bind fun p => match p.1 with
  | .nx => n p.2
  | f => some (f, p.2)
def mDrop (m : ME) : MS := fun env => (m env).map fun p => (.nx, p.2)
def mRet (m : ME) : MS := fun env => (m env).map fun p => (.rt p.1, p.2)
def mIfS (t : MT) (a b : MS) : MS := fun env => (t env).bind fun p => if p.1 = true then a p.2 else b p.2
def putRes (i : Nat) (p : Res × Sl) : Option Sl := match p.1 with
  | .dat d => some (p.2.set i (.val d))
  | .new c => some (p.2.set i (.own c))
  | .slt j => (frz (.slt j, p.2)).bind fun q => match q.1 with
    | .dat d => some (q.2.set i (.val d))
    | _ => none
def mSet (i : Nat) (m : ME) : MS := fun env => (m env).bind fun p => (putRes i p).map fun e => (.nx, e)
section
variable {X : Cx} {K : PySem.W.Frag} {m n : MS} {me : ME} {t : MT} {st : Stmt} {rest as bs : List Stmt} {e c : Expr} {pos : Pos}
theorem skip_run {D : Ends} {σ : St} {H : Hp} (h : tS K mSkip D σ H) : tNext D σ H := by
  obtain ⟨B, env, Hk, f, env', R, hm, k⟩ := h
  cases hm
  exact k σ Hk H R (Same.refl _)
theorem seq_run {D : Ends} {σ : St} {H : Hp} (h : tS K (mSeq m n) D σ H) : tSeq (tS K m) (tS K n) D σ H := by
  obtain ⟨B, env, Hk, f, env', R, hm, k⟩ := h
  obtain ⟨⟨f1, e1⟩, h1, hm⟩ := Option.bind_eq_some_iff.mp hm
  refine ⟨B, env, Hk, f1, e1, R, h1, fun σ1 Hk1 H1 R1 s1 => ?_⟩
  cases f1 with
  | nx => exact ⟨B, e1, Hk1, f, env', R1, hm, fun σ2 Hk2 H2 R2 s2 => k σ2 Hk2 H2 R2 (s1.trans s2)⟩
  | bk => cases hm; exact k σ1 Hk1 H1 R1 s1
  | ct => cases hm; exact k σ1 Hk1 H1 R1 s1
  | rt r => cases hm; exact k σ1 Hk1 H1 R1 s1
theorem vs_nil : VSs X [] mSkip := pss_nil.imp fun _ _ _ => skip_run
theorem vs_cons (h1 : VS X st m) (h2 : VSs X rest n) : VSs X (st :: rest) (mSeq m n) := (pss_cons h1 h2).imp fun _ _ _ => seq_run
theorem vs_one (h1 : VS X st m) : VSs X [st] m := pss_one h1
theorem vs_pass : VS X (.Pass pos) mSkip := ps_pass.imp fun _ _ _ => skip_run
def mBrk : MS := fun env => some (.bk, env)
def mCont : MS := fun env => some (.ct, env)
theorem vs_break : VS X (.Break pos) mBrk := ps_break.imp fun _ _ _ h => by
  obtain ⟨B, env, Hk, f, env', R, hm, k⟩ := h
  cases hm
  exact k _ Hk _ R (Same.refl _)
theorem vs_continue : VS X (.Continue pos) mCont := ps_continue.imp fun _ _ _ h => by
  obtain ⟨B, env, Hk, f, env', R, hm, k⟩ := h
  cases hm
  exact k _ Hk _ R (Same.refl _)
theorem drop_run {D : Ends} {σ : St} {H : Hp} (h : tS K (mDrop me) D σ H) : tDrop (tE K me) D σ H := by
  obtain ⟨B, env, Hk, f, env', R, hm, k⟩ := h
  obtain ⟨⟨r1, e1⟩, h1, hm⟩ := Option.map_eq_some_iff.mp hm
  cases hm
  exact ⟨B, env, Hk, r1, e1, R, h1, fun v Hk1 H1 R1 s1 o1 => k σ Hk1 H1 R1 s1⟩
theorem vs_expr (he : VE X e me) (hs : swapsWith e none pos.line X.env = pure false := by rfl) : VS X (.Expr e pos) (mDrop me) := (ps_expr he hs).imp fun _ _ _ => drop_run
theorem ret_run {D : Ends} {σ : St} {H : Hp} (h : tS K (mRet me) D σ H) : tRet (tE K me) D σ H := by
  obtain ⟨B, env, Hk, f, env', R, hm, k⟩ := h
  obtain ⟨⟨r1, e1⟩, h1, hm⟩ := Option.map_eq_some_iff.mp hm
  cases hm
  exact ⟨B, env, Hk, r1, e1, R, h1, fun v Hk1 H1 R1 s1 o1 => k σ Hk1 H1 R1 s1 v o1⟩
theorem vs_ret (he : VE X e me) : VS X (.Return (some e) pos) (mRet me) := (ps_ret he).imp fun _ _ _ => ret_run
theorem ifS_run {D : Ends} {σ : St} {H : Hp} (h : tS K (mIfS t m n) D σ H) : tIfS (tT K t) (tS K m) (tS K n) D σ H := by
  obtain ⟨B, env, Hk, f, env', R, hm, k⟩ := h
  obtain ⟨⟨b, e1⟩, h1, hm⟩ := Option.bind_eq_some_iff.mp hm
  refine ⟨B, env, Hk, b, e1, R, h1, fun Hk1 H1 R1 s1 => ?_⟩
  cases b with
  | true => exact ⟨B, e1, Hk1, f, env', R1, hm, fun σ2 Hk2 H2 R2 s2 => k σ2 Hk2 H2 R2 (s1.trans s2)⟩
  | false => exact ⟨B, e1, Hk1, f, env', R1, hm, fun σ2 Hk2 H2 R2 s2 => k σ2 Hk2 H2 R2 (s1.trans s2)⟩
theorem vs_if (hc : VT X c t) (ha : VSs X as m) (hb : VSs X bs n) : VS X (.If c as bs pos) (mIfS t m n) := (ps_if hc ha hb).imp fun _ _ _ => ifS_run
theorem Rel.put {B : Fb} {env env' : Sl} {σ : St} {Hk H : Hp} {r : Res} {v : V} {i : Nat} (R : Rel K B env σ Hk H) (o : ResOk K B env σ Hk H r v) (h : putRes i (r, env) = some env') : ∃ Hk', Same Hk Hk' ∧ Rel K B env' (σ.set i (some v)) Hk' H := by
  cases r with
  | dat d =>
    cases h
    exact ⟨Hk, Same.refl _, R.setVal o⟩
  | new c =>
    cases h
    obtain ⟨a, rfl, h1, h2, h3, h4⟩ := o
    exact ⟨Hk, Same.refl _, R.setOwn h1 h2 h3 h4⟩
  | slt j =>
    obtain ⟨⟨r', e'⟩, h1, h2⟩ := Option.bind_eq_some_iff.mp h
    obtain ⟨Hk', d, rfl, R', s, z⟩ := R.frz o h1
    cases h2
    exact ⟨Hk', s, R'.setVal z⟩
theorem set_run {i : Nat} {D : Ends} {σ : St} {H : Hp} (h : tS K (mSet i me) D σ H) : tAsg (tE K me) (gName i) D σ H := by
  obtain ⟨B, env, Hk, f, env', R, hm, k⟩ := h
  obtain ⟨⟨r1, e1⟩, h1, hm⟩ := Option.bind_eq_some_iff.mp hm
  obtain ⟨e2, h2, hm⟩ := Option.map_eq_some_iff.mp hm
  cases hm
  refine ⟨B, env, Hk, r1, e1, R, h1, fun v Hk1 H1 R1 s1 o1 => ?_⟩
  obtain ⟨Hk2, s2, R2⟩ := R1.put o1 h2
  exact k _ Hk2 H1 R2 (s1.trans s2)
theorem vs_set {i : Nat} {x : Str} {pos' : Pos} (hN : X.N.Nodup) (he : VE X e me) (hi : X.N[i]? = some x := by rfl) (hx : Loc X.env.scope x := by first | exact Or.inl rfl | exact Or.inr rfl) (hs : swapsWith e (some (.Name x pos')) pos.line X.env = pure false := by rfl) (hf : X.fn x = true ∨ X.env.scope.names.lookup x = some .local := by first | exact .inl rfl | exact .inr rfl | assumption) :
    VS X (.Assign [.Name x pos'] e pos) (mSet i me) := (ps_set hN hi hx he hs hf).imp fun _ _ _ => set_run
end
/-! ### a cell that waits is kept -/
def Fb.guard (B : Fb) (p : Addr) (o : HO) : Fb := ⟨B.K0, upd B.H0 p o, B.A⟩
section
variable {K : PySem.W.Frag} {B : Fb} {env : Sl} {σ : St} {Hk H : Hp} {p : Addr} {o : HO}
theorem Rel.guard (R : Rel K B env σ Hk H) (h : H p = some o) (hk : Hk p = none) (h0 : B.H0 p = none) (hn : ∀ (j : Nat) s, env[j]? = some s → s.mut → σ[j]? ≠ some (some (V.ref p))) : Rel K (B.guard p o) env σ Hk H where
  ex := R.ex
  kn := R.kn
  fr := fun a h1 h2 => by
    have ne : a ≠ p := fun z => h1 (by rw [z]; exact hk)
    show upd B.H0 p o a = none
    rw [upd_ne ne]
    exact R.fr a h1 h2
  kp := fun a u h1 h2 => by
    by_cases e : a = p
    · subst e
      have h1 : upd B.H0 a o a = some u := h1
      rw [upd_same] at h1
      rw [← h1]
      exact h
    · have h1 : upd B.H0 p o a = some u := h1
      rw [upd_ne e] at h1
      exact R.kp a u h1 h2
  oin := R.oin
  o0 := fun a ha => by
    show upd B.H0 p o a ≠ none
    by_cases e : a = p
    · rw [e, upd_same]
      exact fun z => nomatch z
    · rw [upd_ne e]
      exact R.o0 a ha
  len := R.len
  slot := fun i s hi => by
    obtain ⟨u, h1, h2⟩ := R.slot i s hi
    refine ⟨u, h1, ?_⟩
    cases s with
    | no => trivial
    | val d => exact h2
    | scr d => exact h2
    | io k c => exact h2
    | own c =>
      obtain ⟨a, e1, q1, q2, q3⟩ := h2
      have ne : a ≠ p := fun z => by
        subst e1 z
        exact hn i _ hi trivial h1
      refine ⟨a, e1, q1, ?_, q3⟩
      show upd B.H0 p o a = none
      rw [upd_ne ne]
      exact q2
  sep := R.sep
theorem Rel.unguard (R : Rel K (B.guard p o) env σ Hk H) (h0 : B.H0 p = none) (hK : B.K0 p = none) (hO : ¬ B.io p) : Rel K B env σ Hk H ∧ H p = some o ∧ Hk p = none ∧ ∀ (j : Nat) s, env[j]? = some s → s.mut → σ[j]? ≠ some (some (V.ref p)) := by
  have hp : H p = some o := R.kp p o (show upd B.H0 p o p = some o from upd_same) hO
  have hk : Hk p = none := by
    cases q : Hk p with
    | none => rfl
    | some u =>
      have z := R.fr p (ne_none q) hK
      rw [show (B.guard p o).H0 p = some o from upd_same] at z
      cases z
  have back : ∀ a, (B.guard p o).H0 a = none → a ≠ p ∧ B.H0 a = none := fun a z => by
    have z : upd B.H0 p o a = none := z
    by_cases e : a = p
    · rw [e, upd_same] at z
      cases z
    · rw [upd_ne e] at z
      exact ⟨e, z⟩
  refine ⟨⟨R.ex, R.kn, fun a h1 h2 => (back a (R.fr a h1 h2)).2, fun a u h1 h2 => ?_, R.oin, fun a ha z => ?_, R.len, fun i s hi => ?_, R.sep⟩, hp, hk, fun j s hj hm z => ?_⟩
  · have ne : a ≠ p := fun e => by rw [e, h0] at h1; cases h1
    exact R.kp a u (by show upd B.H0 p o a = some u; rw [upd_ne ne]; exact h1) h2
  · have ne : a ≠ p := fun e => hO (by rw [← e]; exact ha)
    exact R.o0 a ha (by show upd B.H0 p o a = none; rw [upd_ne ne]; exact z)
  · obtain ⟨u, h1, h2⟩ := R.slot i s hi
    refine ⟨u, h1, ?_⟩
    cases s with
    | no => trivial
    | val d => exact h2
    | scr d => exact h2
    | io k c => exact h2
    | own c =>
      obtain ⟨a, e1, q1, q2, q3⟩ := h2
      exact ⟨a, e1, q1, (back a q2).2, q3⟩
  · obtain ⟨u, h1, h2⟩ := R.slot j s hj
    rw [z] at h1
    cases h1
    cases s with
    | no => cases hm
    | val d => cases hm
    | scr d => cases hm
    | io k c =>
      obtain ⟨a, e1, q1, q2, q3⟩ := h2
      cases e1
      exact hO ⟨k, q2⟩
    | own c =>
      obtain ⟨a, e1, q1, q2, q3⟩ := h2
      cases e1
      exact (back _ q2).1 rfl
/-- what nobody sees changes -/
theorem Rel.other (R : Rel K B env σ Hk H) {u : HO} (hk : Hk p = none) (h0 : B.H0 p = none) (hn : ∀ (j : Nat) s, env[j]? = some s → s.mut → σ[j]? ≠ some (some (V.ref p))) : Rel K B env σ Hk (upd H p u) where
  ex := fun b x e => by
    have ne : b ≠ p := fun z => by rw [z, hk] at e; cases e
    rw [upd_ne ne]
    exact R.ex _ _ e
  kn := R.kn
  fr := R.fr
  kp := fun a x h1 h2 => by
    have ne : a ≠ p := fun z => by rw [z, h0] at h1; cases h1
    rw [upd_ne ne]
    exact R.kp a x h1 h2
  oin := fun a ha => by
    refine ⟨?_, (R.oin a ha).2⟩
    by_cases e : a = p
    · rw [e, upd_same]
      exact fun z => nomatch z
    · rw [upd_ne e]
      exact (R.oin a ha).1
  o0 := R.o0
  len := R.len
  slot := fun i s hi => by
    obtain ⟨x, h1, h2⟩ := R.slot i s hi
    refine ⟨x, h1, ?_⟩
    cases s with
    | no => trivial
    | val d => exact h2
    | scr d => exact h2
    | own c =>
      obtain ⟨a, e1, q1, q2, q3⟩ := h2
      have ne : a ≠ p := fun z => by
        subst e1 z
        exact hn i _ hi trivial h1
      exact ⟨a, e1, q1, q2, q3.mono (Same.refl _) fun o z => by rw [upd_ne ne]; exact z⟩
    | io k c =>
      obtain ⟨a, e1, q1, q2, q3⟩ := h2
      have ne : a ≠ p := fun z => by
        subst e1 z
        exact hn i _ hi trivial h1
      exact ⟨a, e1, q1, q2, q3.mono (Same.refl _) fun o z => by rw [upd_ne ne]; exact z⟩
  sep := R.sep
theorem Rel.free0 (R : Rel K B env σ Hk H) (h : Hk p = none) : B.K0 p = none := R.kn.free h
theorem Rel.nO (R : Rel K B env σ Hk H) (h : B.H0 p = none) : ¬ B.io p := fun z => R.o0 p z h
/-- a result waits while another is made -/
theorem Rel.wait (R : Rel K B env σ Hk H) {r : Res} {v : V} (o : ResOk K B env σ Hk H r v) :
    ∃ B', Rel K B' env σ Hk H ∧ ∀ {env' : Sl} {Hk' H' : Hp}, Rel K B' env' σ Hk' H' → Same Hk Hk' → Rel K B env' σ Hk' H' ∧ ResOk K B env' σ Hk' H' r v ∧
      ∀ {r' : Res} {v' : V}, ResOk K B' env' σ Hk' H' r' v' → ResOk K B env' σ Hk' H' r' v' ∧ ∀ c c' a, r = .new c → r' = .new c' → v = .ref a → v' ≠ .ref a := by
  cases r with
  | dat d => exact ⟨B, R, fun R' s => ⟨R', dv_mono s d v o, fun o' => ⟨o', fun c c' a e => by cases e⟩⟩⟩
  | slt i => exact ⟨B, R, fun R' s => ⟨R', o, fun o' => ⟨o', fun c c' a e => by cases e⟩⟩⟩
  | new c =>
    obtain ⟨a, rfl, h1, h2, h3, h4⟩ := o
    obtain ⟨u, hu⟩ := h3.there
    refine ⟨B.guard a u, R.guard hu h1 h2 h4, fun {env' Hk' H'} R' s => ?_⟩
    obtain ⟨R2, q1, q2, q3⟩ := R'.unguard h2 (R.free0 h1) (R.nO h2)
    refine ⟨R2, ⟨a, rfl, q2, h2, h3.mono s fun o z => by rw [hu] at z; rw [← z]; exact q1, q3⟩, fun {r' v'} o' => ?_⟩
    cases r' with
    | dat d => exact ⟨o', fun c c' b _ e => by cases e⟩
    | slt i => exact ⟨o', fun c c' b _ e => by cases e⟩
    | new c' =>
      obtain ⟨b, rfl, g1, g2, g3, g4⟩ := o'
      have g2 : upd B.H0 a u b = none := g2
      have ne : b ≠ a := fun e => by rw [e, upd_same] at g2; cases g2
      rw [upd_ne ne] at g2
      refine ⟨⟨b, rfl, g1, g2, g3, g4⟩, fun _ _ x _ _ e1 e2 => ?_⟩
      cases e1
      exact ne (V.ref.inj e2)
end
end Cm
namespace Cm
open PySem L2
/-! ### several results that wait -/
def frzS : Res × Sl → Option (Res × Sl)
  | (.slt i, e) => frz (.slt i, e)
  | p => some p
def mFrzS (m : ME) : ME := fun env => (m env).bind frzS
def NewAt (r : Res) (v : V) (a : Addr) : Prop := (∃ c, r = .new c) ∧ v = .ref a
inductive RuAll (K : PySem.W.Frag) (B : Fb) (env : Sl) (σ : St) (Hk H : Hp) : List Res → List V → Prop
  | nil : RuAll K B env σ Hk H [] []
  | cons {r : Res} {v : V} {rs : List Res} {vs : List V} : ResOk K B env σ Hk H r v → (∀ i, r ≠ .slt i) → RuAll K B env σ Hk H rs vs → (∀ a, NewAt r v a → ∀ (j : Nat) r' v', rs[j]? = some r' → vs[j]? = some v' → ¬ NewAt r' v' a) → RuAll K B env σ Hk H (r :: rs) (v :: vs)
def tAU (K : PySem.W.Frag) (m : MA) : TA := fun σ H Q => ∃ B env Hk rs env', Rel K B env σ Hk H ∧ m env = some (rs, env') ∧
  ∀ vs Hk' H', Rel K B env' σ Hk' H' → Same Hk Hk' → RuAll K B env' σ Hk' H' rs vs → Q vs H'
abbrev VAU (X : Cx) (es : List Expr) (m : MA) : Prop := PA X es (tAU X.K m)
def mConsU (m : ME) (ms : MA) : MA := fun env => (mFrzS m env).bind fun p => (ms p.2).map fun q => (p.1 :: q.1, q.2)
section
variable {X : Cx} {K : PySem.W.Frag} {m : ME} {ms : MA} {e : Expr} {es : List Expr} {pos : Pos}
theorem Rel.frzS {B : Fb} {env env' : Sl} {σ : St} {Hk H : Hp} {r r' : Res} {v : V} (R : Rel K B env σ Hk H) (o : ResOk K B env σ Hk H r v) (h : Cm.frzS (r, env) = some (r', env')) :
    ∃ Hk', Rel K B env' σ Hk' H ∧ Same Hk Hk' ∧ ResOk K B env' σ Hk' H r' v ∧ ∀ i, r' ≠ .slt i := by
  cases r with
  | dat d =>
    cases h
    exact ⟨Hk, R, Same.refl _, o, fun i z => by cases z⟩
  | new c =>
    cases h
    exact ⟨Hk, R, Same.refl _, o, fun i z => by cases z⟩
  | slt i =>
    obtain ⟨Hk', d, rfl, R', s, z⟩ := R.frz o h
    exact ⟨Hk', R', s, z, fun i z => by cases z⟩
theorem RuAll.back {B B' : Fb} {env' : Sl} {σ : St} {Hk' H' : Hp} (f : ∀ {r' : Res} {v' : V}, ResOk K B' env' σ Hk' H' r' v' → ResOk K B env' σ Hk' H' r' v') : ∀ {rs : List Res} {vs : List V}, RuAll K B' env' σ Hk' H' rs vs → RuAll K B env' σ Hk' H' rs vs
  | _, _, .nil => .nil
  | _, _, .cons h1 h2 h3 h4 => .cons (f h1) h2 (RuAll.back f h3) h4
theorem RuAll.get {B : Fb} {env : Sl} {σ : St} {Hk H : Hp} : ∀ {rs : List Res} {vs : List V}, RuAll K B env σ Hk H rs vs → ∀ (j : Nat) r v, rs[j]? = some r → vs[j]? = some v → ResOk K B env σ Hk H r v
  | _, _, .nil, j, r, v, h, _ => by simp at h
  | _, _, .cons h1 _ _ _, 0, r, v, h, h' => by
    simp at h h'
    subst h h'
    exact h1
  | _, _, .cons _ _ h3 _, j + 1, r, v, h, h' => RuAll.get h3 j r v (by simpa using h) (by simpa using h')
theorem nilU_run {σ : St} {H : Hp} {Q : List V → Hp → Prop} (h : tAU K mNil σ H Q) : tNil σ H Q := by
  obtain ⟨B, env, Hk, rs, env', R, hm, k⟩ := h
  cases hm
  exact k [] Hk H R (Same.refl _) .nil
theorem consU_run {σ : St} {H : Hp} {Q : List V → Hp → Prop} (h : tAU K (mConsU m ms) σ H Q) : tCons (tE K m) (tAU K ms) σ H Q := by
  obtain ⟨B, env, Hk, rs, env', R, hm, k⟩ := h
  obtain ⟨⟨x, e1⟩, h1, hm⟩ := Option.bind_eq_some_iff.mp hm
  obtain ⟨⟨x0, e0⟩, h0, h1⟩ := Option.bind_eq_some_iff.mp h1
  obtain ⟨⟨xs, e2⟩, h2, hm⟩ := Option.map_eq_some_iff.mp hm
  cases hm
  refine ⟨B, env, Hk, x0, e0, R, h0, fun v Hk1 H1 R1 s1 o1 => ?_⟩
  obtain ⟨Hk1', R1', s1', o1', n1⟩ := R1.frzS o1 h1
  obtain ⟨B', R2, back⟩ := R1'.wait o1'
  refine ⟨B', e1, Hk1', xs, e2, R2, h2, fun vs Hk2 H2 R3 s2 o2 => ?_⟩
  obtain ⟨R4, o4, b4⟩ := back R3 s2
  refine k _ Hk2 H2 R4 ((s1.trans s1').trans s2) (.cons o4 n1 (o2.back fun o => (b4 o).1) fun a hna j r' v' hj hj' hnb => ?_)
  obtain ⟨⟨c, rfl⟩, rfl⟩ := hna
  obtain ⟨⟨c', rfl⟩, rfl⟩ := hnb
  exact (b4 (o2.get j _ _ hj hj')).2 c c' a rfl rfl rfl rfl
theorem vau_nil : VAU X [] mNil := pa_nil.imp fun _ _ _ => nilU_run
theorem vau_cons (ha : VE X e m) (hr : VAU X es ms) (hs : starEach (e :: es) X.env = (false, eval e X.env) :: starEach es X.env := by rfl) : VAU X (e :: es) (mConsU m ms) := (pa_cons ha hr hs).imp fun _ _ _ => consU_run
end
def putsRes : List Nat → List Res → Sl → Option Sl
  | [], [], e => some e
  | i :: is, r :: rs, e => (putRes i (r, e)).bind (putsRes is rs)
  | _, _, _ => none
def setAll : St → List Nat → List V → St
  | σ, i :: is, v :: vs => setAll (σ.set i (some v)) is vs
  | σ, _, _ => σ
def mPutU (is : List Nat) (ms : MA) : MS := fun env => (ms env).bind fun p => (putsRes is p.1 p.2).map fun e => (.nx, e)
section
variable {X : Cx} {K : PySem.W.Frag} {ms : MA} {e : Expr} {es : List Expr} {pos : Pos}
theorem RuAll.put {B : Fb} {env env' : Sl} {σ : St} {Hk H : Hp} {i : Nat} {r : Res} {v : V} (o : ResOk K B env σ Hk H r v) (n : ∀ i, r ≠ .slt i) (h : putRes i (r, env) = some env') :
    ∀ {rs : List Res} {vs : List V}, RuAll K B env σ Hk H rs vs → (∀ a, NewAt r v a → ∀ (j : Nat) r' v', rs[j]? = some r' → vs[j]? = some v' → ¬ NewAt r' v' a) → RuAll K B env' (σ.set i (some v)) Hk H rs vs
  | _, _, .nil, _ => .nil
  | r' :: rs, v' :: vs, .cons h1 h2 h3 h4, hn => by
    refine .cons ?_ h2 (RuAll.put o n h h3 fun a ha j r2 v2 e1 e2 => hn a ha (j + 1) r2 v2 (by simpa using e1) (by simpa using e2)) h4
    cases r' with
    | dat d => exact h1
    | slt j => exact absurd rfl (h2 j)
    | new c =>
      obtain ⟨a, rfl, q1, q2, q3, q4⟩ := h1
      refine ⟨a, rfl, q1, q2, q3, fun j s hj hm z => ?_⟩
      cases r with
      | slt j => exact absurd rfl (n j)
      | dat d =>
        cases h
        rcases set_get hj with ⟨rfl, rfl⟩ | ⟨ne, hj⟩
        · cases hm
        · rw [List.getElem?_set_ne (fun z => ne z.symm)] at z
          exact q4 j s hj hm z
      | new c2 =>
        cases h
        obtain ⟨b, rfl, _⟩ := o
        rcases set_get hj with ⟨rfl, rfl⟩ | ⟨ne, hj⟩
        · rcases set_get z with ⟨_, e⟩ | ⟨z2, _⟩
          · cases e
            exact hn a ⟨⟨c2, rfl⟩, rfl⟩ 0 _ _ rfl rfl ⟨⟨c, rfl⟩, rfl⟩
          · exact absurd rfl z2
        · rw [List.getElem?_set_ne (fun z => ne z.symm)] at z
          exact q4 j s hj hm z
theorem Rel.puts {B : Fb} : ∀ {is : List Nat} {rs : List Res} {vs : List V} {env env' : Sl} {σ : St} {Hk H : Hp}, Rel K B env σ Hk H → RuAll K B env σ Hk H rs vs → putsRes is rs env = some env' → Rel K B env' (setAll σ is vs) Hk H ∧ is.length = vs.length
  | [], [], _, env, env', σ, Hk, H, R, .nil, h => by
    cases h
    exact ⟨R, rfl⟩
  | i :: is, r :: rs, _, env, env', σ, Hk, H, R, .cons (v := v) (vs := vs) h1 h2 h3 h4, h => by
    obtain ⟨e1, g1, g2⟩ := Option.bind_eq_some_iff.mp h
    have R1 : Rel K B e1 (σ.set i (some v)) Hk H := by
      cases r with
      | slt j => exact absurd rfl (h2 j)
      | dat d =>
        cases g1
        exact R.setVal h1
      | new c =>
        cases g1
        obtain ⟨a, rfl, q1, q2, q3, q4⟩ := h1
        exact R.setOwn q1 q2 q3 q4
    obtain ⟨R2, l⟩ := Rel.puts R1 (RuAll.put h1 h2 g1 h3 h4) g2
    exact ⟨R2, by simp [l]⟩
  | [], _ :: _, _, env, env', σ, Hk, H, R, _, h => by cases h
  | _ :: _, [], _, env, env', σ, Hk, H, R, _, h => by cases h
theorem par_run {i j : Nat} {D : Ends} {σ : St} {H : Hp} (h : tS K (mPutU [i, j] ms) D σ H) : tPar i j (tAU K ms) D σ H := by
  obtain ⟨B, env, Hk, f, env', R, hm, k⟩ := h
  obtain ⟨⟨rs, e1⟩, h1, hm⟩ := Option.bind_eq_some_iff.mp hm
  obtain ⟨e2, h2, hm⟩ := Option.map_eq_some_iff.mp hm
  cases hm
  refine ⟨B, env, Hk, rs, e1, R, h1, fun vs Hk1 H1 R1 s1 o1 => ?_⟩
  obtain ⟨R2, l⟩ := R1.puts o1 h2
  match vs, l with
  | [v, w], _ => exact ⟨v, w, rfl, k _ Hk1 H1 R2 s1⟩
theorem par3_run {i j l : Nat} {D : Ends} {σ : St} {H : Hp} (h : tS K (mPutU [i, j, l] ms) D σ H) : tPar3 i j l (tAU K ms) D σ H := by
  obtain ⟨B, env, Hk, f, env', R, hm, k⟩ := h
  obtain ⟨⟨rs, e1⟩, h1, hm⟩ := Option.bind_eq_some_iff.mp hm
  obtain ⟨e2, h2, hm⟩ := Option.map_eq_some_iff.mp hm
  cases hm
  refine ⟨B, env, Hk, rs, e1, R, h1, fun vs Hk1 H1 R1 s1 o1 => ?_⟩
  obtain ⟨R2, l⟩ := R1.puts o1 h2
  match vs, l with
  | [u, v, w], _ => exact ⟨u, v, w, rfl, k _ Hk1 H1 R2 s1⟩
theorem vs_par {i j : Nat} {x y : Str} {a b : Expr} {px py pt : Pos} {kt k2 pt2} (hN : X.N.Nodup) (ha : VAU X [a, b] ms) (hc : X.calm = true := by rfl) (hi : X.N[i]? = some x := by rfl) (hj : X.N[j]? = some y := by rfl) (hij : i ≠ j := by decide)
    (hx : X.env.scope.names.lookup x = some .local := by rfl) (hy : X.env.scope.names.lookup y = some .local := by rfl)
    (hw : swappedStores [.Tuple [.Name x px, .Name y py] kt pt] (.Tuple [a, b] k2 pt2) X.env = pure (some [x, y]) := by rfl)
    (hs : swapsWithSole [.Tuple [.Name x px, .Name y py] kt pt] (.Tuple [a, b] k2 pt2) pos.line X.env = pure false := by rfl) :
    VS X (.Assign [.Tuple [.Name x px, .Name y py] kt pt] (.Tuple [a, b] k2 pt2) pos) (mPutU [i, j] ms) := (ps_par hc hN hi hj hij hx hy ha hw hs).imp fun _ _ _ => par_run
theorem vs_par3 {i j l : Nat} {x y z : Str} {a b c : Expr} {px py pz pt : Pos} {kt k2 pt2} (hN : X.N.Nodup) (ha : VAU X [a, b, c] ms) (hc : X.calm = true := by rfl) (hi : X.N[i]? = some x := by rfl) (hj : X.N[j]? = some y := by rfl) (hl : X.N[l]? = some z := by rfl) (hij : i ≠ j := by decide) (hil : i ≠ l := by decide) (hjl : j ≠ l := by decide)
    (hx : X.env.scope.names.lookup x = some .local := by rfl) (hy : X.env.scope.names.lookup y = some .local := by rfl) (hz : X.env.scope.names.lookup z = some .local := by rfl)
    (hw : swappedStores [.Tuple [.Name x px, .Name y py, .Name z pz] kt pt] (.Tuple [a, b, c] k2 pt2) X.env = pure (some [x, y, z]) := by rfl)
    (hs : swapsWithSole [.Tuple [.Name x px, .Name y py, .Name z pz] kt pt] (.Tuple [a, b, c] k2 pt2) pos.line X.env = pure false := by rfl) :
    VS X (.Assign [.Tuple [.Name x px, .Name y py, .Name z pz] kt pt] (.Tuple [a, b, c] k2 pt2) pos) (mPutU [i, j, l] ms) := (ps_par3 hc hN hi hj hl hij hil hjl hx hy hz ha hw hs).imp fun _ _ _ => par3_run
/-- .. where a name is a cell: a tuple is made and unpacked -/
def gNames : List Nat → TGs
  | [] => gNil
  | i :: is => gCons (gName i) (gNames is)
theorem gNames_run : ∀ {is : List Nat} {vs : List V} {σ : St} {H : Hp} {Q : St → Hp → Prop}, is.length = vs.length → Q (setAll σ is vs) H → gNames is vs σ H Q
  | [], [], _, _, _, _, q => ⟨rfl, q⟩
  | i :: is, v :: vs, σ, H, Q, l, q => ⟨v, vs, rfl, gNames_run (is := is) (vs := vs) (σ := σ.set i (some v)) (by simpa using l) q⟩
theorem asgT_run {is : List Nat} (hz : is.length ≤ 100000) {D : Ends} {σ : St} {H : Hp} (h : tS K (mPutU is ms) D σ H) : tAsg (tTup (tAU K ms)) (gTup K is.length (gNames is)) D σ H := by
  obtain ⟨B, env, Hk, f, env', R, hm, k⟩ := h
  obtain ⟨⟨rs, e1⟩, h1, hm⟩ := Option.bind_eq_some_iff.mp hm
  obtain ⟨e2, h2, hm⟩ := Option.map_eq_some_iff.mp hm
  cases hm
  refine ⟨B, env, Hk, rs, e1, R, h1, fun vs Hk1 H1 R1 s1 o1 => ?_⟩
  obtain ⟨R2, l⟩ := R1.puts o1 h2
  refine ⟨by rw [← l]; exact sz_of hz, fun p hp => ⟨p, vs, rfl, SqT.of upd_same, l.symm, gNames_run l ?_⟩⟩
  exact k _ Hk1 _ (R2.laid hp) s1
theorem vs_asgT {is : List Nat} {kt : Nat} {tpos pt2 : Pos} {ts es : List Expr} {k2} (ha : VAU X es ms) (hg : PGs X ts (gNames is)) (hc : X.calm = true := by rfl) (hn : (assignEach ts X.env).length = is.length := by rfl) (hst : (assignEach ts X.env).findIdx? (·.1) = none := by rfl) (hz : is.length ≤ 100000 := by decide)
    (hs : swapsWithSole [.Tuple ts kt tpos] (.Tuple es k2 pt2) pos.line X.env = pure false := by rfl) (hw : swappedStores [.Tuple ts kt tpos] (.Tuple es k2 pt2) X.env = pure none := by rfl)
    (h1 : (assignEach [.Tuple ts kt tpos] X.env).map (·.2) = [assign (.Tuple ts kt tpos) X.env] := by rfl) : VS X (.Assign [.Tuple ts kt tpos] (.Tuple es k2 pt2) pos) (mPutU is ms) :=
  (ps_asg (pe_tup ha) (pg_tup hc hg hn hst) hs hw h1).imp fun _ _ _ => asgT_run hz
end
/-! ### targets -/
abbrev MG := PyData → Sl → Option Sl
def tG (K : PySem.W.Frag) (js : List Nat) (mg : MG) : TG := fun v σ H Q => ∃ B env Hk d env', Rel K B env σ Hk H ∧ Dv K Hk v d ∧ mg d env = some env' ∧
  ∀ σ' Hk' H', Rel K B env' σ' Hk' H' → Same Hk Hk' → (∀ i, i ∉ js → σ'[i]? = σ[i]?) → σ'.length = σ.length → Q σ' H'
def mgName (j : Nat) : MG := fun d env => some (env.set j (.val d))
abbrev VG (X : Cx) (e : Expr) (js : List Nat) (mg : MG) : Prop := PG X e (tG X.K js mg)
abbrev MGs := List PyData → Sl → Option Sl
def tGs (K : PySem.W.Frag) (js : List Nat) (mg : MGs) : TGs := fun vs σ H Q => ∃ B env Hk ds env', Rel K B env σ Hk H ∧ DvAll K Hk vs ds ∧ mg ds env = some env' ∧
  ∀ σ' Hk' H', Rel K B env' σ' Hk' H' → Same Hk Hk' → (∀ i, i ∉ js → σ'[i]? = σ[i]?) → σ'.length = σ.length → Q σ' H'
def mgNil : MGs := fun ds env => match ds with
  | [] => some env
  | _ => none
def mgCons (g : MG) (gs : MGs) : MGs := fun ds env => match ds with
  | d :: ds => (g d env).bind (gs ds)
  | _ => none
def mgTup (gs : MGs) : MG := fun d env => match d with
  | .tuple ds => gs ds env
  | _ => none
section
variable {X : Cx} {K : PySem.W.Frag} {js is : List Nat} {g : MG} {gs : MGs} {pos : Pos}
theorem gname_run {j : Nat} {v : V} {σ : St} {H : Hp} {Q : St → Hp → Prop} (h : tG K [j] (mgName j) v σ H Q) : gName j v σ H Q := by
  obtain ⟨B, env, Hk, d, env', R, hd, hm, k⟩ := h
  cases hm
  exact k _ _ _ (R.setVal hd) (Same.refl _) (fun i hi => List.getElem?_set_ne (fun z => hi (by simp [z]))) (List.length_set)
theorem vg_name {j : Nat} {x : Str} (hN : X.N.Nodup) (hi : X.N[j]? = some x := by rfl) (hx : Loc X.env.scope x := by first | exact Or.inl rfl | exact Or.inr rfl) (hf : X.fn x = true ∨ X.env.scope.names.lookup x = some .local := by first | exact .inl rfl | exact .inr rfl | assumption) : VG X (.Name x pos) [j] (mgName j) :=
  (pg_name hN hi hx hf).imp fun _ _ _ _ => gname_run
theorem gnil_run {vs : List V} {σ : St} {H : Hp} {Q : St → Hp → Prop} (h : tGs K [] mgNil vs σ H Q) : gNil vs σ H Q := by
  obtain ⟨B, env, Hk, ds, env', R, hd, hm, k⟩ := h
  cases hd with
  | nil =>
    cases hm
    exact ⟨rfl, k σ _ _ R (Same.refl _) (fun _ _ => rfl) rfl⟩
  | cons _ _ => cases hm
theorem gcons_run {vs : List V} {σ : St} {H : Hp} {Q : St → Hp → Prop} (h : tGs K (js ++ is) (mgCons g gs) vs σ H Q) : gCons (tG K js g) (tGs K is gs) vs σ H Q := by
  obtain ⟨B, env, Hk, ds, env', R, hd, hm, k⟩ := h
  cases hd with
  | nil => cases hm
  | cons h1 h2 =>
    obtain ⟨e1, g1, g2⟩ := Option.bind_eq_some_iff.mp hm
    refine ⟨_, _, rfl, B, env, Hk, _, e1, R, h1, g1, fun σ1 Hk1 H1 R1 s1 d1 l1 => ?_⟩
    refine ⟨B, e1, Hk1, _, env', R1, dvAll_mono s1 _ _ h2, g2, fun σ2 Hk2 H2 R2 s2 d2 l2 => ?_⟩
    refine k σ2 Hk2 H2 R2 (s1.trans s2) (fun i hi => ?_) (l2.trans l1)
    rw [d2 i (fun z => hi (List.mem_append_right _ z)), d1 i (fun z => hi (List.mem_append_left _ z))]
theorem vgs_nil : PGs X [] (tGs X.K [] mgNil) := pgs_nil.imp fun _ _ _ _ => gnil_run
theorem vgs_cons {e : Expr} {es : List Expr} (h1 : VG X e js g) (h2 : PGs X es (tGs X.K is gs)) (hs : (assignEach (e :: es) X.env).map (·.2) = assign e X.env :: (assignEach es X.env).map (·.2) := by rfl) : PGs X (e :: es) (tGs X.K (js ++ is) (mgCons g gs)) :=
  (pgs_cons h1 h2 hs).imp fun _ _ _ _ => gcons_run
theorem mgs_len {n : Nat} {ds : List PyData} {env env' : Sl} (hl : ∀ ds env env', gs ds env = some env' → ds.length = n) (h : gs ds env = some env') : ds.length = n := hl ds env env' h
theorem gtup_run {n : Nat} (hl : ∀ ds env env', gs ds env = some env' → ds.length = n) {v : V} {σ : St} {H : Hp} {Q : St → Hp → Prop} (h : tG K js (mgTup gs) v σ H Q) : gTup K n (tGs K js gs) v σ H Q := by
  obtain ⟨B, env, Hk, d, env', R, hd, hm, k⟩ := h
  cases d with
  | tuple ds =>
    cases hd with
    | tup h1 h2 => exact ⟨_, _, rfl, same_tup R.ex h1, by rw [h2.len]; exact hl _ _ _ hm, B, env, Hk, ds, env', R, h2, hm, k⟩
  | _ => cases hm
theorem mgnil_len : ∀ ds env env', mgNil ds env = some env' → ds.length = 0 := fun ds env env' h => by
  cases ds with
  | nil => rfl
  | cons _ _ => cases h
theorem mgcons_len {n : Nat} (hl : ∀ ds env env', gs ds env = some env' → ds.length = n) : ∀ ds env env', mgCons g gs ds env = some env' → ds.length = n + 1 := fun ds env env' h => by
  cases ds with
  | nil => cases h
  | cons d ds =>
    obtain ⟨e1, g1, g2⟩ := Option.bind_eq_some_iff.mp h
    rw [List.length_cons, hl _ _ _ g2]
theorem vg_tup {es : List Expr} {kk n : Nat} (h : PGs X es (tGs X.K js gs)) (hl : ∀ ds env env', gs ds env = some env' → ds.length = n) (hc : X.calm = true := by rfl) (hn : (assignEach es X.env).length = n := by rfl) (hst : (assignEach es X.env).findIdx? (·.1) = none := by rfl) : VG X (.Tuple es kk pos) js (mgTup gs) :=
  (pg_tup hc h hn hst).imp fun _ _ _ _ => gtup_run hl
end
/-! ### what is walked -/
def IterOk (K : PySem.W.Frag) (Hk0 : Hp) (J : It) (ds : List PyData) : Prop := ∀ (Hk H : Hp), Same Hk0 Hk → Same Hk H → ∀ i, (∀ d, ds[i]? = some d → J.go i H ∧ ∀ x H', J.yld i H x H' → Out K Hk H (.dat d) x H') ∧ (ds.length ≤ i → J.stop i H)
abbrev MI := Sl → Option (List PyData × Sl)
def tI (K : PySem.W.Frag) (m : MI) : TI := fun σ H R => ∃ B env Hk ds env', Rel K B env σ Hk H ∧ m env = some (ds, env') ∧
  ∀ J Hk' H', Rel K B env' σ Hk' H' → Same Hk Hk' → IterOk K Hk' J ds → R J H'
abbrev VI (X : Cx) (tg e : Expr) (m : MI) : Prop := PI X tg e (tI X.K m)
def forL (g : MG) (b : MS) : List PyData → Sl → Option (Fl × Sl)
  | [], e => some (.nx, e)
  | d :: ds, e => (g d e).bind fun e1 => (b e1).bind fun q => match q.1 with
    | .nx => forL g b ds q.2
    | .ct => forL g b ds q.2
    | .bk => some (.nx, q.2)
    | .rt r => some (.rt r, q.2)
def mFor (mi : MI) (g : MG) (b : MS) : MS := fun env => (mi env).bind fun p => forL g b p.1 p.2
section
variable {X : Cx} {K : PySem.W.Frag} {js : List Nat} {g : MG} {b : MS} {mi : MI} {pos : Pos}
theorem drop_cons {α : Type} {l : List α} {i : Nat} {d : α} {r : List α} (h : l.drop i = d :: r) : l[i]? = some d ∧ l.drop (i + 1) = r ∧ i < l.length := by
  have h1 : l[i]? = some d := by
    rw [← List.head?_drop, h]
    rfl
  refine ⟨h1, ?_, (List.getElem?_eq_some_iff.mp h1).1⟩
  rw [← List.drop_drop, h]
  rfl
theorem for_run {D : Ends} {σ : St} {H : Hp} (h : tS K (mFor mi g b) D σ H) : tFor (tI K mi) (tG K js g) (tS K b) D σ H := by
  obtain ⟨B, env, Hk, f, env', R, hm, k⟩ := h
  obtain ⟨⟨ds, e1⟩, h1, hm⟩ := Option.bind_eq_some_iff.mp hm
  refine ⟨B, env, Hk, ds, e1, R, h1, fun J Hk1 H1 R1 s1 it => ?_⟩
  refine ⟨fun i m σ H => m = ds.length - i ∧ ∃ e Hk2, Rel K B e σ Hk2 H ∧ Same Hk1 Hk2 ∧ forL g b (ds.drop i) e = some (f, env'), ⟨ds.length, by simp, e1, Hk1, R1, Same.refl _, hm⟩, ?_⟩
  rintro i m σ2 H2 ⟨rfl, e, Hk2, R2, s2, hf⟩
  obtain ⟨go, stop⟩ := it Hk2 H2 s2 R2.ex i
  cases hd : ds.drop i with
  | nil =>
    rw [hd] at hf
    cases hf
    have hl : ds.length ≤ i := List.drop_eq_nil_iff.mp hd
    exact .inl ⟨stop hl, k σ2 Hk2 H2 R2 (s1.trans s2)⟩
  | cons d r =>
    rw [hd] at hf
    obtain ⟨hi, hr, hlt⟩ := drop_cons hd
    obtain ⟨gi, yi⟩ := go d hi
    obtain ⟨e2, g1, hf⟩ := Option.bind_eq_some_iff.mp hf
    obtain ⟨⟨f1, e3⟩, g2, hf⟩ := Option.bind_eq_some_iff.mp hf
    refine .inr ⟨gi, fun σ' H' => ∃ e Hk2, Rel K B e σ' Hk2 H' ∧ Same Hk1 Hk2 ∧ forL g b (ds.drop (i + 1)) e = some (f, env'), fun σ' H' w => ⟨ds.length - (i + 1), by omega, rfl, w⟩, fun x H' y => ?_⟩
    obtain ⟨Hk3, R3, s3, o3⟩ := R2.out (yi x H' y)
    refine ⟨B, e, Hk3, d, e2, R3, o3, g1, fun σ3 Hk4 H4 R4 s4 _ _ => ?_⟩
    refine ⟨B, e2, Hk4, f1, e3, R4, g2, fun σ4 Hk5 H5 R5 s5 => ?_⟩
    have sm := ((s2.trans s3).trans s4).trans s5
    cases f1 with
    | nx =>
      refine ⟨e3, Hk5, R5, sm, ?_⟩
      rw [hr]
      exact hf
    | ct =>
      refine ⟨e3, Hk5, R5, sm, ?_⟩
      rw [hr]
      exact hf
    | bk =>
      cases hf
      exact k σ4 Hk5 H5 R5 (s1.trans sm)
    | rt r =>
      cases hf
      exact k σ4 Hk5 H5 R5 (s1.trans sm)
theorem vs_for {tg iter : Expr} {body : List Stmt} (hp : PassesOwn (model X.prog X.w) X.A X.env X.xe) (hi : VI X tg iter mi) (hg : VG X tg js g) (hb : VSs X body b) (hc : X.calm = true := by rfl)
    (hs : ∀ x, foldedSetIterable iter X.env x = pure x := by intro _; rfl) : VS X (.For tg iter body [] pos) (mFor mi g b) := (ps_for hp hc hi hg hb hs).imp fun _ _ _ => for_run
end
/-! ### while, with so many turns at most -/
def whileL (t : MT) (b : MS) : Nat → Sl → Option (Fl × Sl)
  | 0, _ => none
  | n + 1, e => (t e).bind fun p => if p.1 = true then (b p.2).bind fun q => match q.1 with
    | .nx => whileL t b n q.2
    | .ct => whileL t b n q.2
    | .bk => some (.nx, q.2)
    | .rt r => some (.rt r, q.2) else some (.nx, p.2)
def mWhile (n : Nat) (t : MT) (b : MS) : MS := whileL t b n
section
variable {X : Cx} {K : PySem.W.Frag} {t : MT} {b : MS} {pos : Pos}
theorem while_run {n : Nat} {D : Ends} {σ : St} {H : Hp} (h : tS K (mWhile n t b) D σ H) : tWhile (tT K t) (tS K b) D σ H := by
  obtain ⟨B, env, Hk, f, env', R, hm, k⟩ := h
  refine ⟨fun m σ H => ∃ e Hk2, Rel K B e σ Hk2 H ∧ Same Hk Hk2 ∧ whileL t b m e = some (f, env'), ⟨n, env, Hk, R, Same.refl _, hm⟩, ?_⟩
  rintro m σ2 H2 ⟨e, Hk2, R2, s2, hf⟩
  cases m with
  | zero => cases hf
  | succ m =>
    obtain ⟨⟨c, e1⟩, g1, hf⟩ := Option.bind_eq_some_iff.mp hf
    refine ⟨B, e, Hk2, c, e1, R2, g1, fun Hk3 H3 R3 s3 => ?_⟩
    cases c with
    | false =>
      cases hf
      exact k σ2 Hk3 H3 R3 (s2.trans s3)
    | true =>
      obtain ⟨⟨f1, e2⟩, g2, hf⟩ := Option.bind_eq_some_iff.mp hf
      refine ⟨fun σ' H' => ∃ e Hk2, Rel K B e σ' Hk2 H' ∧ Same Hk Hk2 ∧ whileL t b m e = some (f, env'), fun σ' H' w => ⟨m, Nat.lt_succ_self _, w⟩, ?_⟩
      refine ⟨B, e1, Hk3, f1, e2, R3, g2, fun σ4 Hk5 H5 R5 s5 => ?_⟩
      have sm := (s2.trans s3).trans s5
      cases f1 with
      | nx => exact ⟨e2, Hk5, R5, sm, hf⟩
      | ct => exact ⟨e2, Hk5, R5, sm, hf⟩
      | bk =>
        cases hf
        exact k σ4 Hk5 H5 R5 sm
      | rt r =>
        cases hf
        exact k σ4 Hk5 H5 R5 sm
theorem vs_while (n : Nat) {c : Expr} {body : List Stmt} (hp : PassesOwn (model X.prog X.w) X.A X.env X.xe) (hc : VT X c t) (hb : VSs X body b) : VS X (.While c body [] pos) (mWhile n t b) := (ps_while hp hc hb).imp fun _ _ _ => while_run
end
end Cm
namespace Cm
open PySem L2
/-! ### comprehensions -/
def wipeS (env : Sl) : List Nat → Sl
  | [] => env
  | v :: vs => (wipeS env vs).set v .no
def lcL (g : MG) (t : MT) (me : ME) (vs : List Nat) : List PyData → Sl → List PyData → Option (List PyData × Sl)
  | [], e, acc => some (acc, e)
  | d :: ds, e, acc => (g d e).bind fun e1 => (t e1).bind fun p => if p.1 = true then (mFrz me p.2).bind fun q => match q.1 with
    | .dat x => lcL g t me vs ds (wipeS q.2 vs) (acc ++ [x])
    | _ => none else lcL g t me vs ds (wipeS p.2 vs) acc
def mLc (mi : MI) (g : MG) (t : MT) (me : ME) (vs : List Nat) : ME := fun env => (mi env).bind fun p => if p.1.length ≤ 100000 then (lcL g t me vs p.1 (wipeS p.2 vs) []).map fun q => (.new (.lst q.1), q.2) else none
section
variable {X : Cx} {K : PySem.W.Frag} {js : List Nat} {g : MG} {t : MT} {me : ME} {mi : MI} {pos : Pos}
theorem Rel.wiped {B : Fb} {env : Sl} {σ : St} {Hk H : Hp} (R : Rel K B env σ Hk H) : ∀ vs : List Nat, Rel K B (wipeS env vs) (wipe σ vs) Hk H
  | [] => R
  | v :: vs => (Rel.wiped R vs).setNo
theorem wipeS_no {env : Sl} {i : Nat} {s : Slot} : ∀ {vs : List Nat}, i ∈ vs → (wipeS env vs)[i]? = some s → s = .no
  | v :: vs, h, e => by
    rcases set_get (show ((wipeS env vs).set v .no)[i]? = some s from e) with ⟨_, z⟩ | ⟨ne, z⟩
    · exact z
    · rcases List.mem_cons.mp h with q | q
      · exact absurd q ne
      · exact wipeS_no q z
theorem wipe_out {σ : St} {i : Nat} : ∀ {vs : List Nat}, i ∉ vs → (wipe σ vs)[i]? = σ[i]?
  | [], _ => rfl
  | v :: vs, h => by
    show ((wipe σ vs).set v none)[i]? = _
    rw [List.getElem?_set_ne (fun e => h (by simp [e]))]
    exact wipe_out (fun z => h (List.mem_cons_of_mem _ z))
theorem wipe_in {σ : St} {i : Nat} : ∀ {vs : List Nat}, i ∈ vs → i < σ.length → (wipe σ vs)[i]? = some none
  | v :: vs, h, hl => by
    show ((wipe σ vs).set v none)[i]? = _
    by_cases e : v = i
    · subst e
      rw [List.getElem?_set_self (by rw [wipe_length]; exact hl)]
    · rw [List.getElem?_set_ne e]
      rcases List.mem_cons.mp h with q | q
      · exact absurd q.symm e
      · exact wipe_in q hl
theorem wipe_ext {σ σ' : St} {vs : List Nat} (h : ∀ i, i ∉ vs → σ'[i]? = σ[i]?) (hl : σ'.length = σ.length) : wipe σ' vs = wipe σ vs := by
  refine List.ext_getElem? fun i => ?_
  by_cases hi : i ∈ vs
  · by_cases hlt : i < σ.length
    · rw [wipe_in hi hlt, wipe_in hi (by omega)]
    · rw [List.getElem?_eq_none (by rw [wipe_length]; omega), List.getElem?_eq_none (by rw [wipe_length]; omega)]
  · rw [wipe_out hi, wipe_out hi, h i hi]
theorem Rel.unwiped {B : Fb} {env : Sl} {σ : St} {Hk H : Hp} {vs : List Nat} (R : Rel K B (wipeS env vs) (wipe σ vs) Hk H) : Rel K B (wipeS env vs) σ Hk H where
  ex := R.ex
  kn := R.kn
  fr := R.fr
  kp := R.kp
  oin := R.oin
  o0 := R.o0
  len := by rw [R.len, wipe_length]
  slot := fun i s hi => by
    by_cases h : i ∈ vs
    · rw [wipeS_no h hi]
      obtain ⟨o, h1, _⟩ := R.slot i s hi
      have hl : i < σ.length := by
        have := (List.getElem?_eq_some_iff.mp h1).1
        rw [wipe_length] at this
        exact this
      exact ⟨σ[i], List.getElem?_eq_getElem hl, trivial⟩
    · obtain ⟨o, h1, h2⟩ := R.slot i s hi
      rw [wipe_out h] at h1
      exact ⟨o, h1, h2⟩
  sep := fun i j s u a hi hj ms mu e1 e2 => by
    have n1 : i ∉ vs := fun z => by
      rw [wipeS_no z hi] at ms
      exact ms
    have n2 : j ∉ vs := fun z => by
      rw [wipeS_no z hj] at mu
      exact mu
    exact R.sep i j s u a hi hj ms mu (by rw [wipe_out n1]; exact e1) (by rw [wipe_out n2]; exact e2)
theorem lcL_wiped {vs : List Nat} : ∀ {ds : List PyData} {e : Sl} {acc : List PyData} {out : List PyData} {env' : Sl}, lcL g t me vs ds (wipeS e vs) acc = some (out, env') → ∃ e', env' = wipeS e' vs
  | [], e, acc, out, env', h => by
    cases h
    exact ⟨e, rfl⟩
  | d :: ds, e, acc, out, env', h => by
    obtain ⟨e1, g1, h⟩ := Option.bind_eq_some_iff.mp h
    obtain ⟨⟨b, e2⟩, g2, h⟩ := Option.bind_eq_some_iff.mp h
    cases b with
    | false => exact lcL_wiped (show lcL g t me vs ds (wipeS e2 vs) acc = _ from h)
    | true =>
      obtain ⟨⟨r, e3⟩, g3, h⟩ := Option.bind_eq_some_iff.mp (show ((mFrz me e2).bind _) = _ from h)
      cases r with
      | dat x => exact lcL_wiped (show lcL g t me vs ds (wipeS e3 vs) _ = _ from h)
      | new c => cases h
      | slt i => cases h
theorem lc_run {vs : List Nat} (hj : ∀ j, j ∈ js → j ∈ vs) {σ : St} {H : Hp} {Q : VK} (h : tE K (mLc mi g t me vs) σ H Q) : tLc (tI K mi) (tG K js g) (tT K t) (tE K (mFrz me)) vs σ H Q := by
  obtain ⟨B, env, Hk, res, env', R, hm, k⟩ := h
  obtain ⟨⟨ds, e1⟩, h1, hm⟩ := Option.bind_eq_some_iff.mp hm
  by_cases hz : ds.length ≤ 100000
  · have hm : ((lcL g t me vs ds (wipeS e1 vs) []).map fun q => (Res.new (Cell.lst q.1), q.2)) = some (res, env') := by
      have hm : (if ds.length ≤ 100000 then _ else _) = _ := hm
      rw [if_pos hz] at hm
      exact hm
    obtain ⟨⟨out, e2⟩, h2, hm⟩ := Option.map_eq_some_iff.mp hm
    cases hm
    refine ⟨B, env, Hk, ds, e1, R, h1, fun J Hk1 H1 R1 s1 it p hp => ?_⟩
    obtain ⟨ew, rfl⟩ := lcL_wiped h2
    refine ⟨fun i m H => m = ds.length - i ∧ ∃ e Hk2 xs acc, Rel K B (wipeS e vs) (wipe σ vs) Hk2 H ∧ Same Hk1 Hk2 ∧ H p = some (.lst xs) ∧ Hk2 p = none ∧ (∀ (j : Nat) s, (wipeS e vs)[j]? = some s → s.mut → (wipe σ vs)[j]? ≠ some (some (V.ref p))) ∧ DvAll K Hk2 xs acc ∧ acc.length ≤ i ∧ lcL g t me vs (ds.drop i) (wipeS e vs) acc = some (out, wipeS ew vs),
      ⟨ds.length, by simp, e1, Hk1, [], [], (R1.wiped vs).laid hp, Same.refl _, upd_same, R1.kfree hp, fun j s a b => (R1.wiped vs).mutNe hp a b, .nil, Nat.zero_le _, h2⟩, ?_⟩
    have h0 : B.H0 p = none := R1.fresh0 hp
    rintro i m H2 ⟨rfl, e, Hk2, xs, acc, R2, s2, hpx, hkp, hnm, hda, hal, hf⟩
    obtain ⟨go, stop⟩ := it Hk2 H2 s2 R2.ex i
    cases hd : ds.drop i with
    | nil =>
      rw [hd] at hf
      have hf : some (acc, wipeS e vs) = some (out, wipeS ew vs) := hf
      obtain ⟨rfl, he⟩ : acc = out ∧ wipeS e vs = wipeS ew vs := by
        have := Option.some.inj hf
        exact ⟨congrArg Prod.fst this, congrArg Prod.snd this⟩
      have hl : ds.length ≤ i := List.drop_eq_nil_iff.mp hd
      refine .inl ⟨stop hl, k _ Hk2 H2 (he ▸ R2.unwiped) (s1.trans s2) ⟨p, rfl, hkp, h0, ⟨xs, hpx, hda⟩, ?_⟩⟩
      rw [← he]
      intro j s hjs hms z
      have nj : j ∉ vs := fun z => by
        rw [wipeS_no z hjs] at hms
        exact hms
      exact hnm j s hjs hms (by rw [wipe_out nj]; exact z)
    | cons d r =>
      rw [hd] at hf
      obtain ⟨hi, hr, hlt⟩ := drop_cons hd
      obtain ⟨gi, yi⟩ := go d hi
      obtain ⟨e2, g1, hf⟩ := Option.bind_eq_some_iff.mp hf
      obtain ⟨⟨b, e3⟩, g2, hf⟩ := Option.bind_eq_some_iff.mp hf
      have G := R2.guard hpx hkp h0 hnm
      refine .inr ⟨gi, fun H' => ∃ e Hk2 xs acc, Rel K B (wipeS e vs) (wipe σ vs) Hk2 H' ∧ Same Hk1 Hk2 ∧ H' p = some (.lst xs) ∧ Hk2 p = none ∧ (∀ (j : Nat) s, (wipeS e vs)[j]? = some s → s.mut → (wipe σ vs)[j]? ≠ some (some (V.ref p))) ∧ DvAll K Hk2 xs acc ∧ acc.length ≤ i + 1 ∧ lcL g t me vs (ds.drop (i + 1)) (wipeS e vs) acc = some (out, wipeS ew vs),
        fun H' w => ⟨ds.length - (i + 1), by omega, rfl, w⟩, fun x H' y => ?_⟩
      obtain ⟨Hk3, G3, s3, o3⟩ := G.out (yi x H' y)
      refine ⟨_, _, Hk3, d, e2, G3, o3, g1, fun σ4 Hk4 H4 G4 s4 d4 l4 => ⟨?_, ?_⟩⟩
      · rw [wipe_ext (σ := wipe σ vs) (fun i hi => d4 i fun z => hi (hj i z)) l4]
        exact wipe_ext (fun i hi => wipe_out hi) (wipe_length _ _)
      have wq : wipe σ4 vs = wipe σ vs := by
        rw [wipe_ext (σ := wipe σ vs) (fun i hi => d4 i fun z => hi (hj i z)) l4]
        exact wipe_ext (fun i hi => wipe_out hi) (wipe_length _ _)
      have s3 := s3.trans s4
      refine ⟨_, e2, Hk4, b, e3, G4, g2, fun Hk5 H5 G5 s5 => ?_⟩
      have fin : ∀ {e : Sl} {Hk6 H6 : Hp}, Rel K (B.guard p (.lst xs)) e σ4 Hk6 H6 → Rel K B (wipeS e vs) (wipe σ vs) Hk6 H6 ∧ H6 p = some (.lst xs) ∧ Hk6 p = none ∧ ∀ (j : Nat) s, (wipeS e vs)[j]? = some s → s.mut → (wipe σ vs)[j]? ≠ some (some (V.ref p)) := fun {e Hk6 H6} G6 => by
        have Gw := G6.wiped vs
        rw [wq] at Gw
        exact Gw.unguard h0 (R1.kn.free (R1.kfree hp)) (R1.nO h0)
      cases b with
      | false =>
        have hf : lcL g t me vs r (wipeS e3 vs) acc = some (out, wipeS ew vs) := hf
        obtain ⟨F1, F2, F3, F4⟩ := fin G5
        show ∃ e Hk2 xs acc, _
        exact ⟨e3, Hk5, xs, acc, F1, (s2.trans s3).trans s5, F2, F3, F4, dvAll_mono (s3.trans s5) _ _ hda, by omega, by rw [hr]; exact hf⟩
      | true =>
        have hf : ((mFrz me e3).bind _) = some (out, wipeS ew vs) := hf
        obtain ⟨⟨rx, e4⟩, g3, hf⟩ := Option.bind_eq_some_iff.mp hf
        show tE K (mFrz me) σ4 H5 _
        refine ⟨_, e3, Hk5, rx, e4, G5, g3, fun y6 Hk6 H6 G6 s6 o6 => ?_⟩
        obtain ⟨F1, F2, F3, F4⟩ := fin G6
        cases rx with
        | new c => cases hf
        | slt i => cases hf
        | dat dx =>
          have hf : lcL g t me vs r (wipeS e4 vs) (acc ++ [dx]) = some (out, wipeS ew vs) := hf
          have sm := (s3.trans s5).trans s6
          refine ⟨xs, F2, ?_, e4, Hk6, xs ++ [y6], acc ++ [dx], F1.other F3 h0 F4, s2.trans sm, upd_same, F3, F4, DvAll.append (dvAll_mono sm _ _ hda) (.cons o6 .nil), ?_, ?_⟩
          · rw [hda.len]
            exact Nat.lt_of_lt_of_le (show acc.length < 200000 by omega) (by decide)
          · rw [List.length_append]
            show acc.length + 1 ≤ i + 1
            omega
          · rw [hr]
            exact hf
  · have hm : (if ds.length ≤ 100000 then _ else _) = _ := hm
    rw [if_neg hz] at hm
    cases hm
def mYes : MT := fun env => some (true, env)
abbrev VTs (X : Cx) (ifs : List Expr) (t : MT) : Prop := PTs X ifs (tT X.K t)
theorem _root_.L2.PTs.imp {X : Cx} {e : List Expr} {t t' : TT} (h : PTs X e t) (k : ∀ σ H Q, t' σ H Q → t σ H Q) : PTs X e t' := ⟨fun pins s σ H Q I q => h.run pins s σ H Q I (k σ H Q q)⟩
theorem vts_nil : VTs X [] mYes := pts_nil.imp fun _ _ _ h => by
  obtain ⟨B, env, Hk, b, env', R, hm, k⟩ := h
  cases hm
  exact k Hk _ R (Same.refl _)
theorem vts_one {c : Expr} (h : VT X c t) : VTs X [c] t := pts_one h
theorem ve_lc {elt tg iter : Expr} {ifs : List Expr} {scope : Scope} {own : List (Str × Nat)} (hN : X.N.Nodup) (hi : VI X tg iter mi) (ok : BlkOk X.N X.env.scope scope own)
    (hg : ∀ (s : Shared) (H : Hp) (C : Addr) (cl : List (Str × Addr)) (fp : List Addr), VG (X.blk s H scope (compEnvC scope cl C X.env) fp) tg js g) (ht : ∀ (s : Shared) (H : Hp) (C : Addr) (cl : List (Str × Addr)) (fp : List Addr), VTs (X.blk s H scope (compEnvC scope cl C X.env) fp) ifs t)
    (he : ∀ (s : Shared) (H : Hp) (C : Addr) (cl : List (Str × Addr)) (fp : List Addr), VE (X.blk s H scope (compEnvC scope cl C X.env) fp) elt me) (hj : ∀ j, j ∈ js → j ∈ own.map (·.2)) (hc : X.calm = true := by rfl) (hs : ∀ x, foldedSetIterable iter X.env x = pure x := by intro _; rfl) :
    VE X (.ListComp elt [⟨tg, iter, ifs, 0⟩] scope pos) (mLc mi g t me (own.map (·.2))) :=
  (pe_lc hc hN hi ok hg ht (fun s H C cl fp => ve_frz (he s H C cl fp)) hs).imp fun _ _ _ => lc_run hj
theorem vs_setLc {i : Nat} {y : Str} {py spos : Pos} {elt tg iter : Expr} {ifs : List Expr} {scope : Scope} {own : List (Str × Nat)} (hN : X.N.Nodup) (hi : VI X tg iter mi) (ok : BlkOk X.N X.env.scope scope own)
    (hg : ∀ (s : Shared) (H : Hp) (C : Addr) (cl : List (Str × Addr)) (fp : List Addr), VG (X.blk s H scope (compEnvC scope cl C X.env) fp) tg js g) (ht : ∀ (s : Shared) (H : Hp) (C : Addr) (cl : List (Str × Addr)) (fp : List Addr), VTs (X.blk s H scope (compEnvC scope cl C X.env) fp) ifs t)
    (he : ∀ (s : Shared) (H : Hp) (C : Addr) (cl : List (Str × Addr)) (fp : List Addr), VE (X.blk s H scope (compEnvC scope cl C X.env) fp) elt me) (hj : ∀ j, j ∈ js → j ∈ own.map (·.2))
    (hsw : swapsWith (.ListComp elt [⟨tg, iter, ifs, 0⟩] scope pos) (some (.Name y py)) spos.line X.env = pure true) (hy : X.N[i]? = some y := by rfl) (hyl : X.env.scope.names.lookup y = some .local := by rfl) (hc : X.calm = true := by rfl) (hs : ∀ x, foldedSetIterable iter X.env x = pure x := by intro _; rfl) :
    VS X (.Assign [.Name y py] (.ListComp elt [⟨tg, iter, ifs, 0⟩] scope pos) spos) (mSet i (mLc mi g t me (own.map (·.2)))) :=
  (ps_setLc hc hN hy hyl hsw hi ok hg ht (fun s H C cl fp => ve_frz (he s H C cl fp)) hs).imp fun D σ H h => lc_run hj (set_run h)
end
end Cm
namespace Cm
open PySem PySem.Spec PyProof.Rows L2
abbrev FM := Sl → Option (Res × Sl)
def ArgOk (K : PySem.W.Frag) (Hk H : Hp) (s : Slot) (v : V) : Prop := match s with
  | .val d => Dv K Hk v d
  | .io _ c => ∃ a, v = .ref a ∧ Hk a = none ∧ CellAt K Hk H a c
  | .scr ns => ∃ a, v = .ref a ∧ SqL K Hk a (ns.map V.int)
  | _ => False
structure ArgsOk (K : PySem.W.Frag) (Hk H : Hp) (ins : Sl) (vs : List V) : Prop where
  len : ins.length = vs.length
  arg : ∀ (i : Nat) s v, ins[i]? = some s → vs[i]? = some v → ArgOk K Hk H s v
  ix : ∀ (i k : Nat) c, ins[i]? = some (.io k c) → k = i
  sep : ∀ (i j k l : Nat) c c' a, ins[i]? = some (.io k c) → ins[j]? = some (.io l c') → vs[i]? = some (V.ref a) → vs[j]? = some (V.ref a) → i = j
def ioA (ins : Sl) (vs : List V) (k : Nat) : Option Addr := match ins[k]?, vs[k]? with
  | some (.io _ _), some (.ref a) => some a
  | _, _ => none
def FRes (K : PySem.W.Frag) (H Hk' H' : Hp) (r : Res) (v : V) : Prop := match r with
  | .dat d => Dv K Hk' v d
  | .new c => ∃ a, v = .ref a ∧ Hk' a = none ∧ H a = none ∧ CellAt K Hk' H' a c
  | .slt _ => False
structure PostF (K : PySem.W.Frag) (Hk H : Hp) (ins : Sl) (vs : List V) (outs : Sl) (r : Res) (v : V) (Hk' H' : Hp) : Prop where
  kn : Same Hk Hk'
  ex : Same Hk' H'
  fr : ∀ a, Hk' a ≠ none → Hk a = none → H a = none
  kp : ∀ a o, H a = some o → (∀ k, ioA ins vs k ≠ some a) → H' a = some o
  io : ∀ k a, ioA ins vs k = some a → ∃ c', outs[k]? = some (.io k c') ∧ Hk' a = none ∧ CellAt K Hk' H' a c'
  res : FRes K H Hk' H' r v
def spF (K : PySem.W.Frag) (fm : FM) : Sp := fun vs H Q _ => ∃ Hk ins r outs, Same Hk H ∧ ArgsOk K Hk H ins vs ∧ fm ins = some (r, outs) ∧ ∀ v Hk' H', PostF K Hk H ins vs outs r v Hk' H' → Q v H'
def ioKept : Sl → Sl → Bool
  | .io k _ :: s, .io l _ :: t => k == l && ioKept s t
  | .io _ _ :: _, _ => false
  | _ :: s, _ :: t => ioKept s t
  | _ :: s, [] => ioKept s []
  | [], _ => true
def finR : Fl × Sl → Option Res
  | (.nx, _) => some (.dat .none)
  | (.rt (.dat d), _) => some (.dat d)
  | (.rt (.new c), _) => some (.new c)
  | (.rt (.slt i), e) => match e[i]? with
    | some (.val d) => some (.dat d)
    | some (.own c) => some (.new c)
    | _ => none
  | _ => none
def fmOf (np n : Nat) (mb : MS) : FM := fun ins => if ins.length = np then (mb (ins ++ List.replicate (n - np) .no)).bind fun p => (finR p).bind fun r => if ioKept ins p.2 = true then some (r, p.2.take np) else none else none
theorem ioKept_get : ∀ {s t : Sl} {i k : Nat} {c : Cell}, ioKept s t = true → s[i]? = some (.io k c) → ∃ c', t[i]? = some (.io k c')
  | .io k _ :: s, .io l c' :: t, 0, k', c, h, e => by
    simp at e
    simp only [ioKept, Bool.and_eq_true, beq_iff_eq] at h
    exact ⟨c', by rw [← e.1, h.1]; rfl⟩
  | .io k _ :: s, .io l c' :: t, i + 1, k', c, h, e => by
    simp only [ioKept, Bool.and_eq_true] at h
    obtain ⟨z, q⟩ := ioKept_get (i := i) h.2 (by simpa using e)
    exact ⟨z, by simpa using q⟩
  | .io k _ :: s, .no :: t, _, _, _, h, e => by cases h
  | .io k _ :: s, .val _ :: t, _, _, _, h, e => by cases h
  | .io k _ :: s, .own _ :: t, _, _, _, h, e => by cases h
  | .io k _ :: s, .scr _ :: t, _, _, _, h, e => by cases h
  | .io k _ :: s, [], _, _, _, h, e => by cases h
  | .no :: s, x :: t, 0, _, _, h, e => by simp at e
  | .val _ :: s, x :: t, 0, _, _, h, e => by simp at e
  | .own _ :: s, x :: t, 0, _, _, h, e => by simp at e
  | .scr _ :: s, x :: t, 0, _, _, h, e => by simp at e
  | .no :: s, x :: t, i + 1, _, _, h, e => by
    obtain ⟨z, q⟩ := ioKept_get (s := s) (t := t) (i := i) h (by simpa using e)
    exact ⟨z, by simpa using q⟩
  | .val _ :: s, x :: t, i + 1, _, _, h, e => by
    obtain ⟨z, q⟩ := ioKept_get (s := s) (t := t) (i := i) h (by simpa using e)
    exact ⟨z, by simpa using q⟩
  | .own _ :: s, x :: t, i + 1, _, _, h, e => by
    obtain ⟨z, q⟩ := ioKept_get (s := s) (t := t) (i := i) h (by simpa using e)
    exact ⟨z, by simpa using q⟩
  | .scr _ :: s, x :: t, i + 1, _, _, h, e => by
    obtain ⟨z, q⟩ := ioKept_get (s := s) (t := t) (i := i) h (by simpa using e)
    exact ⟨z, by simpa using q⟩
  | .no :: s, [], 0, _, _, h, e => by simp at e
  | .val _ :: s, [], 0, _, _, h, e => by simp at e
  | .own _ :: s, [], 0, _, _, h, e => by simp at e
  | .scr _ :: s, [], 0, _, _, h, e => by simp at e
  | .no :: s, [], i + 1, _, _, h, e => by
    obtain ⟨z, q⟩ := ioKept_get (s := s) (t := []) (i := i) h (by simpa using e)
    simp at q
  | .val _ :: s, [], i + 1, _, _, h, e => by
    obtain ⟨z, q⟩ := ioKept_get (s := s) (t := []) (i := i) h (by simpa using e)
    simp at q
  | .own _ :: s, [], i + 1, _, _, h, e => by
    obtain ⟨z, q⟩ := ioKept_get (s := s) (t := []) (i := i) h (by simpa using e)
    simp at q
  | .scr _ :: s, [], i + 1, _, _, h, e => by
    obtain ⟨z, q⟩ := ioKept_get (s := s) (t := []) (i := i) h (by simpa using e)
    simp at q
  | [], _, i, _, _, _, e => by simp at e
section
variable {P : Program} {w : World} {K : PySem.W.Frag} {mg : Str → Option Value} {base : Heap}
theorem ioA_of {ins : Sl} {vs : List V} {k : Nat} {a : Addr} (h : ioA ins vs k = some a) : ∃ l c, ins[k]? = some (.io l c) ∧ vs[k]? = some (.ref a) := by
  unfold ioA at h
  split at h
  · rename_i l c b e1 e2
    cases h
    exact ⟨l, c, e1, e2⟩
  · cases h
theorem ioA_is {ins : Sl} {vs : List V} {k l : Nat} {c : Cell} {a : Addr} (h : ins[k]? = some (.io l c)) (h' : vs[k]? = some (.ref a)) : ioA ins vs k = some a := by
  unfold ioA
  rw [h, h']
theorem start_get {N : List Str} {vs : List V} {i : Nat} {v : V} (h : vs[i]? = some v) : (L2.start N vs)[i]? = some (some v) := by
  unfold L2.start
  rw [List.getElem?_append_left (by rw [List.length_map]; exact (List.getElem?_eq_some_iff.mp h).1), List.getElem?_map, h]
  rfl
theorem start_len {N : List Str} {vs : List V} (h : vs.length ≤ N.length) : (L2.start N vs).length = N.length := by
  unfold L2.start
  rw [List.length_append, List.length_map, List.length_replicate]
  omega
theorem ArgsOk.rel {Hk H : Hp} {ins : Sl} {vs : List V} {N : List Str} (A : ArgsOk K Hk H ins vs) (s : Same Hk H) (hl : vs.length ≤ N.length) :
    Rel K ⟨Hk, H, ioA ins vs⟩ (ins ++ List.replicate (N.length - ins.length) .no) (L2.start N vs) Hk H := by
  have io : ∀ a, (⟨Hk, H, ioA ins vs⟩ : Fb).io a → H a ≠ none ∧ Hk a = none := fun a h => by
    obtain ⟨k, h⟩ := h
    obtain ⟨l, c, e1, e2⟩ := ioA_of h
    obtain ⟨b, e3, q1, q2⟩ := A.arg k _ _ e1 e2
    cases e3
    obtain ⟨o, ho⟩ := q2.there
    exact ⟨ne_none ho, q1⟩
  have cut : ∀ (i : Nat) s, (ins ++ List.replicate (N.length - ins.length) Slot.no)[i]? = some s → (ins[i]? = some s ∧ i < vs.length) ∨ s = .no := fun i s h => by
    by_cases hi : i < ins.length
    · rw [List.getElem?_append_left hi] at h
      exact .inl ⟨h, by rw [← A.len]; exact hi⟩
    · rw [List.getElem?_append_right (by omega), List.getElem?_replicate] at h
      split at h
      · cases h
        exact .inr rfl
      · cases h
  refine ⟨s, Same.refl _, fun a h1 h2 => absurd h2 h1, fun a o h _ => h, io, fun a h => (io a h).1, ?_, fun i s h => ?_, fun i j s t a h1 h2 m1 m2 e1 e2 => ?_⟩
  · rw [List.length_append, List.length_replicate, start_len hl, A.len]
    omega
  · rcases cut i s h with ⟨q, hi⟩ | rfl
    · have hv : vs[i]? = some vs[i] := List.getElem?_eq_getElem hi
      refine ⟨some vs[i], start_get hv, ?_⟩
      have z := A.arg i s _ q hv
      cases s with
      | no => trivial
      | val d => exact ⟨_, rfl, z⟩
      | own c => cases z
      | scr ns =>
        obtain ⟨a, e1, q1⟩ := z
        exact ⟨a, by rw [e1], q1⟩
      | io k c =>
        obtain ⟨a, e1, q1, q2⟩ := z
        refine ⟨a, by rw [e1], q1, ?_, q2⟩
        have := A.ix i k c q
        subst this
        exact ioA_is q (by rw [hv, e1])
    · have hlt : i < (L2.start N vs).length := by
        have := (List.getElem?_eq_some_iff.mp h).1
        rw [List.length_append, List.length_replicate, A.len] at this
        rw [start_len hl]
        omega
      exact ⟨_, List.getElem?_eq_getElem hlt, trivial⟩
  · rcases cut i s h1 with ⟨q1, hi⟩ | rfl
    · rcases cut j t h2 with ⟨q2, hj⟩ | rfl
      · have v1 : vs[i]? = some vs[i] := List.getElem?_eq_getElem hi
        have v2 : vs[j]? = some vs[j] := List.getElem?_eq_getElem hj
        have g1 := start_get (N := N) v1
        have g2 := start_get (N := N) v2
        rw [e1] at g1
        rw [e2] at g2
        have w1 : vs[i]? = some (.ref a) := by rw [v1]; exact congrArg some (Option.some.inj (Option.some.inj g1)).symm
        have w2 : vs[j]? = some (.ref a) := by rw [v2]; exact congrArg some (Option.some.inj (Option.some.inj g2)).symm
        cases s with
        | no => cases m1
        | val d => cases m1
        | scr d => cases m1
        | own c => exact False.elim (A.arg i _ _ q1 w1)
        | io k c =>
          cases t with
          | no => cases m2
          | val d => cases m2
          | scr d => cases m2
          | own c => exact False.elim (A.arg j _ _ q2 w2)
          | io l c' => exact A.sep i j k l c c' a q1 q2 w1 w2
      · cases m2
    · cases m1
/-- THE RULE: a def by its body's function -/
theorem fn_ok {x qual : Str} {st : Stmt} {f : Addr} {fd : FuncData} {N ps : List Str} {k : Nat} {mb : MS} (F : FunD K x qual (defArgs st) (defBody st) (defScope st) [] [] f fd) (S : FnScope N ps (defScope st))
    (hb : ∀ (cdv : Value) (A : Around) (outer : List Env) (s : Shared) (H : Hp) (E : XK), Room k (A.deeper (envOfC qual (defScope st) s.heap.objs.size f cdv)) → VSs ((cxOf CX0 P w K mg base N qual (defScope st) f cdv A outer s H E).nox) (defBody st) mb) :
    FnOk P w K mg base CX0 (k + 1) f fd ps (spF K (fmOf ps.length N.length mb)) := by
  have hpl : ps.length ≤ N.length := by
    have := congrArg List.length S.pre
    rw [List.length_take] at this
    omega
  refine F.ok (CX := CX0) S (fun vs H Q E h => ?_) (fun cdv A outer s H vs Q E hr h => ?_)
  · obtain ⟨Hk, ins, r, outs, _, hA, hf, _⟩ := h
    unfold fmOf at hf
    by_cases hl : ins.length = ps.length
    · rw [← hA.len, hl]
    · rw [if_neg hl] at hf
      cases hf
  · obtain ⟨Hk, ins, r, outs, sm, hA, hf, q⟩ := h
    unfold fmOf at hf
    by_cases hl : ins.length = ps.length
    · rw [if_pos hl] at hf
      obtain ⟨⟨fl, env'⟩, h1, hf⟩ := Option.bind_eq_some_iff.mp hf
      obtain ⟨r', h2, hf⟩ := Option.bind_eq_some_iff.mp hf
      by_cases hk : ioKept ins env' = true
      · have hf : (if ioKept ins env' = true then some (r', env'.take ps.length) else none) = some (r, outs) := hf
        rw [if_pos hk] at hf
        cases hf
        refine ⟨tS K mb, PSs.nox (hb cdv A outer s H E hr), ?_⟩
        have R := hA.rel (N := N) sm (by rw [← hA.len, hl]; exact hpl)
        rw [hl] at R
        refine ⟨_, _, Hk, fl, env', R, h1, fun σ' Hk' H' R' s' => ?_⟩
        have post : ∀ v, FRes K H Hk' H' r v → Q v H' := fun v hv => by
          refine q v Hk' H' ⟨s', R'.ex, R'.fr, fun a o h1 h2 => R'.kp a o h1 (fun ⟨k, z⟩ => h2 k z), fun k a h => ?_, hv⟩
          obtain ⟨l, c, e1, e2⟩ := ioA_of h
          have := hA.ix k l c e1
          subst this
          obtain ⟨c', g1⟩ := ioKept_get hk e1
          have hlt : l < ps.length := by rw [← hl]; exact (List.getElem?_eq_some_iff.mp e1).1
          refine ⟨c', by rw [List.getElem?_take_of_lt hlt]; exact g1, (R'.oin a ⟨l, h⟩).2, ?_⟩
          obtain ⟨o, _, b, _, _, z1, z2⟩ := R'.slot l _ g1
          have z1 : ioA ins vs l = some b := z1
          rw [h] at z1
          cases z1
          exact z2
        cases fl with
        | nx =>
          cases h2
          exact post .non .non
        | bk => cases h2
        | ct => cases h2
        | rt r0 =>
          intro v hv
          cases r0 with
          | dat d =>
            cases h2
            exact post v hv
          | new c =>
            cases h2
            obtain ⟨a, rfl, q1, q2, q3, _⟩ := hv
            exact post _ ⟨a, rfl, q1, q2, q3⟩
          | slt i =>
            have hv : σ'[i]? = some (some v) := hv
            cases e : env'[i]? with
            | none =>
              simp only [finR, e] at h2
              cases h2
            | some s =>
              obtain ⟨o, g1, g2⟩ := R'.slot i s e
              rw [hv] at g1
              cases g1
              simp only [finR, e] at h2
              cases s with
              | no => cases h2
              | scr d => cases h2
              | io k c => cases h2
              | val d =>
                cases h2
                obtain ⟨v', e1, z⟩ := g2
                cases e1
                exact post _ z
              | own c =>
                cases h2
                obtain ⟨a, e1, z1, z2, z3⟩ := g2
                cases e1
                exact post _ ⟨a, rfl, z1, z2, z3⟩
      · have hf : (if ioKept ins env' = true then some (r', env'.take ps.length) else none) = some (r, outs) := hf
        rw [if_neg hk] at hf
        cases hf
    · rw [if_neg hl] at hf
      cases hf
end
end Cm
namespace Cm
open PySem L2
/-! ### a def called -/
/-- brw: a list of one's own may be lent -/
def argV (brw : Bool) (io : Option Nat) (env : Sl) (k : Nat) (r : Res) : Option Slot := if io = some k then (match r with
    | .slt i => match env[i]? with
      | some (.own c) => some (.io k c)
      | some (.io _ c) => some (.io k c)
      | _ => none
    | _ => none) else match r with
    | .dat d => some (.val d)
    | .slt i => match env[i]? with
      | some (.val d) => some (.val d)
      | some (.scr ns) => some (.scr ns)
      | some (.own (.lst ds)) => if brw then some (.val (.list ds)) else none
      | some (.io _ (.lst ds)) => if brw then some (.val (.list ds)) else none
      | _ => none
    | _ => none
def argsV (brw : Bool) (io : Option Nat) (env : Sl) : Nat → List Res → Option Sl
  | _, [] => some []
  | k, r :: rs => (argV brw io env k r).bind fun s => (argsV brw io env (k + 1) rs).map (s :: ·)
def backV (io : Option Nat) (env : Sl) (rs : List Res) (outs : Sl) : Option Sl := match io with
  | none => some env
  | some q => match rs[q]?, outs[q]? with
    | some (.slt i), some (.io _ c) => match env[i]? with
      | some s => some (env.set i (s.put c))
      | none => none
    | _, _ => none
def mCallV (fm : FM) (io : Option Nat) (ms : MA) : ME := fun env => (ms env).bind fun p => (argsV false io p.2 0 p.1).bind fun ins => (fm ins).bind fun q => (backV io p.2 p.1 q.2).map fun e => (q.1, e)
def flatD : PyData → Bool
  | .none => true
  | .bool _ => true
  | .int _ => true
  | .str _ => true
  | _ => false
def flatR : Res → Bool
  | .dat d => flatD d
  | .new (.lst ds) => ds.all flatD
  | .slt _ => false
def flatS : Slot → Bool
  | .io _ (.lst ds) => ds.all flatD
  | _ => true
/-- no list is lent and changed at once -/
def lentOk (io : Option Nat) (rs : List Res) : Bool := match io with
  | none => true
  | some q => match rs[q]? with
    | some (.slt i) => (List.range rs.length).all fun j => j == q || (match rs[j]? with
      | some (.slt l) => l != i
      | _ => true)
    | _ => false
def mCallF (fm : FM) (io : Option Nat) (ms : MA) : ME := fun env => (ms env).bind fun p => if lentOk io p.1 = true then (argsV true io p.2 0 p.1).bind fun ins => (fm ins).bind fun q => if (flatR q.1 && q.2.all flatS) = true then (backV io p.2 p.1 q.2).map fun e => (q.1, e) else none else none
section
variable {X : Cx} {K : PySem.W.Frag} {B : Fb} {env : Sl} {σ : St} {Hk Hk' H H' : Hp}
theorem argsV_get {brw : Bool} {io : Option Nat} : ∀ {rs : List Res} {k : Nat} {ins : Sl}, argsV brw io env k rs = some ins → ins.length = rs.length ∧ ∀ (i : Nat) r, rs[i]? = some r → ∃ s, ins[i]? = some s ∧ argV brw io env (k + i) r = some s
  | [], k, ins, h => by
    cases h
    exact ⟨rfl, fun i r e => by simp at e⟩
  | r :: rs, k, ins, h => by
    obtain ⟨s, h1, h⟩ := Option.bind_eq_some_iff.mp h
    obtain ⟨ss, h2, h3⟩ := Option.map_eq_some_iff.mp h
    subst h3
    obtain ⟨l, g⟩ := argsV_get h2
    refine ⟨by simp [l], fun i r' e => ?_⟩
    cases i with
    | zero =>
      simp at e
      subst e
      exact ⟨s, rfl, h1⟩
    | succ i =>
      obtain ⟨s', q1, q2⟩ := g i r' (by simpa using e)
      refine ⟨s', by simpa using q1, ?_⟩
      rw [show k + (i + 1) = k + 1 + i by omega]
      exact q2
theorem RsAll.len : ∀ {rs : List Res} {vs : List V}, RsAll K σ Hk rs vs → rs.length = vs.length
  | _, _, .nil => rfl
  | _, _, .cons _ h => by
    have := RsAll.len h
    simp [this]
theorem RsAll.get : ∀ {rs : List Res} {vs : List V}, RsAll K σ Hk rs vs → ∀ (i : Nat) v, vs[i]? = some v → ∃ r, rs[i]? = some r ∧ RsOk K σ Hk r v
  | _, _, .nil, i, v, h => by simp at h
  | _, _, .cons h1 _, 0, v, h => by
    simp at h
    subst h
    exact ⟨_, rfl, h1⟩
  | _, _, .cons _ h2, i + 1, v, h => by
    obtain ⟨r, e, q⟩ := RsAll.get h2 i v (by simpa using h)
    exact ⟨r, by simpa using e, q⟩
/-- a slot that is mutable, with its address -/
theorem Rel.mutAt (R : Rel K B env σ Hk H) {i : Nat} {s : Slot} (hs : env[i]? = some s) (hm : s.mut) : ∃ a, σ[i]? = some (some (V.ref a)) ∧ Hk a = none ∧ (∃ o, H a = some o) ∧ (B.H0 a = none ∨ B.io a) := by
  obtain ⟨o, h1, h2⟩ := R.slot i s hs
  cases s with
  | no => cases hm
  | val d => cases hm
  | scr d => cases hm
  | own c =>
    obtain ⟨a, rfl, q1, q2, q3⟩ := h2
    exact ⟨a, h1, q1, q3.there, .inl q2⟩
  | io k c =>
    obtain ⟨a, rfl, q1, q2, q3⟩ := h2
    exact ⟨a, h1, q1, q3.there, .inr ⟨k, q2⟩⟩
/-- behind a call that changed one cell -/
theorem Rel.called (R : Rel K B env σ Hk H) (kn : Same Hk Hk') (ex : Same Hk' H') (fr : ∀ a, Hk' a ≠ none → Hk a = none → H a = none) {i : Nat} {s : Slot} {a : Addr} {c' : Cell} (hs : env[i]? = some s) (hm : s.mut) (ha : σ[i]? = some (some (V.ref a)))
    (kp : ∀ b o, H b = some o → b ≠ a → H' b = some o) (hc : CellAt K Hk' H' a c') : Rel K B (env.set i (s.put c')) σ Hk' H' := by
  obtain ⟨a', e1, q1, ⟨o, ho⟩, q2⟩ := R.mutAt hs hm
  rw [ha] at e1
  cases e1
  obtain ⟨o', ho'⟩ := hc.there
  have hk' : Hk' a = none := by
    cases q : Hk' a with
    | none => rfl
    | some u => exact absurd (fr a (ne_none q) q1) (ne_none ho)
  have eqH : H' = upd (upd H' a o) a o' := by
    funext b
    by_cases e : b = a
    · rw [e, upd_same, ho']
    · rw [upd_ne e, upd_ne e]
  have sH : Same H (upd H' a o) := fun b x e => by
    by_cases z : b = a
    · rw [z] at e ⊢
      rw [ho] at e
      rw [upd_same]
      exact e
    · rw [upd_ne z]
      exact kp b x e z
  have R2 : Rel K B env σ Hk' (upd H' a o) := R.grow kn (fun b x e => by
    have z : b ≠ a := fun z => by rw [z, hk'] at e; cases e
    rw [upd_ne z]
    exact ex b x e) sH fr
  have hc2 : CellAt K Hk' (upd (upd H' a o) a o') a c' := by
    rw [← eqH]
    exact hc
  have R3 := R2.change (c := c') hs hm ha hc2
  rw [← eqH] at R3
  exact R3
theorem same_of_keep {ins : Sl} {vs : List V} {H H' : Hp} (kp : ∀ a o, H a = some o → (∀ k, ioA ins vs k ≠ some a) → H' a = some o) (hn : ∀ k, ioA ins vs k = none) : Same H H' := fun a o e => kp a o e fun k z => by rw [hn k] at z; cases z
/-- the arguments as slots -/
theorem args_io {brw : Bool} {io : Option Nat} {rs : List Res} {ins : Sl} (h : argsV brw io env 0 rs = some ins) {i k : Nat} {c : Cell} (e : ins[i]? = some (.io k c)) : k = i ∧ io = some i ∧ ∃ j s, rs[i]? = some (.slt j) ∧ env[j]? = some s ∧ s.mut ∧ (s = .own c ∨ ∃ l, s = .io l c) := by
  obtain ⟨l, g⟩ := argsV_get h
  have hi : i < rs.length := by rw [← l]; exact (List.getElem?_eq_some_iff.mp e).1
  obtain ⟨s, q1, q2⟩ := g i _ (List.getElem?_eq_getElem hi)
  rw [e] at q1
  cases q1
  rw [Nat.zero_add] at q2
  unfold argV at q2
  by_cases hio : io = some i
  · rw [if_pos hio] at q2
    cases er : rs[i] with
    | dat d => rw [er] at q2; cases q2
    | new d => rw [er] at q2; cases q2
    | slt j =>
      rw [er] at q2
      cases ej : env[j]? with
      | none => simp only [ej] at q2; cases q2
      | some s =>
        simp only [ej] at q2
        cases s with
        | no => cases q2
        | val d => cases q2
        | scr d => cases q2
        | own c2 =>
          cases q2
          exact ⟨rfl, hio, j, _, by rw [List.getElem?_eq_getElem hi, er], ej, trivial, .inl rfl⟩
        | io l c2 =>
          cases q2
          exact ⟨rfl, hio, j, _, by rw [List.getElem?_eq_getElem hi, er], ej, trivial, .inr ⟨l, rfl⟩⟩
  · rw [if_neg hio] at q2
    cases er : rs[i] with
    | dat d => rw [er] at q2; cases q2
    | new d => rw [er] at q2; cases q2
    | slt j =>
      rw [er] at q2
      cases ej : env[j]? with
      | none => simp only [ej] at q2; cases q2
      | some s =>
        simp only [ej] at q2
        cases s with
        | no => cases q2
        | val d => cases q2
        | scr d => cases q2
        | own c2 =>
          cases c2
          cases brw <;> cases q2
        | io l c2 =>
          cases c2
          cases brw <;> cases q2
theorem CellAt.slot (R : Rel K B env σ Hk H) {j : Nat} {s : Slot} {c : Cell} {a : Addr} (hs : env[j]? = some s) (hc : s = .own c ∨ ∃ l, s = .io l c) (ha : σ[j]? = some (some (V.ref a))) : CellAt K Hk H a c := by
  obtain ⟨o, h1, h2⟩ := R.slot j s hs
  rw [ha] at h1
  cases h1
  rcases hc with rfl | ⟨l, rfl⟩
  · obtain ⟨b, e1, _, _, q⟩ := h2
    cases e1
    exact q
  · obtain ⟨b, e1, _, _, q⟩ := h2
    cases e1
    exact q
/-- at most one argument is changed: its slot and address -/
theorem io_at (R : Rel K B env σ Hk H) {brw : Bool} {io : Option Nat} {rs : List Res} {ins : Sl} {vs : List V} (h : argsV brw io env 0 rs = some ins) (hr : RsAll K σ Hk rs vs) {k : Nat} {a : Addr} (e : ioA ins vs k = some a) :
    io = some k ∧ ∃ j s c, ins[k]? = some (.io k c) ∧ rs[k]? = some (.slt j) ∧ env[j]? = some s ∧ s.mut ∧ (s = .own c ∨ ∃ l, s = .io l c) ∧ σ[j]? = some (some (V.ref a)) ∧ vs[k]? = some (.ref a) := by
  obtain ⟨l, c, e1, e2⟩ := ioA_of e
  obtain ⟨rfl, hio, j, s, g1, g2, g3, g4⟩ := args_io h e1
  obtain ⟨r, q1, q2⟩ := hr.get l _ e2
  rw [g1] at q1
  cases q1
  exact ⟨hio, j, s, c, e1, g1, g2, g3, g4, q2, e2⟩
theorem back_is {io : Option Nat} {rs : List Res} {outs e2 : Sl} (h : backV io env rs outs = some e2) : (io = none ∧ e2 = env) ∨ ∃ q i k c s, io = some q ∧ rs[q]? = some (.slt i) ∧ outs[q]? = some (.io k c) ∧ env[i]? = some s ∧ e2 = env.set i (s.put c) := by
  cases io with
  | none =>
    cases h
    exact .inl ⟨rfl, rfl⟩
  | some q =>
    cases h1 : rs[q]? with
    | none => simp only [backV, h1] at h; cases h
    | some r =>
      cases r with
      | dat d => simp only [backV, h1] at h; cases h
      | new d => simp only [backV, h1] at h; cases h
      | slt i =>
        cases h2 : outs[q]? with
        | none => simp only [backV, h1, h2] at h; cases h
        | some s =>
          cases s with
          | no => simp only [backV, h1, h2] at h; cases h
          | val d => simp only [backV, h1, h2] at h; cases h
          | own d => simp only [backV, h1, h2] at h; cases h
          | scr d => simp only [backV, h1, h2] at h; cases h
          | io k c =>
            cases h3 : env[i]? with
            | none => simp only [backV, h1, h2, h3] at h; cases h
            | some s =>
              simp only [backV, h1, h2, h3] at h
              cases h
              exact .inr ⟨q, i, k, c, s, rfl, h1, h2, h3, rfl⟩
theorem args_len {brw : Bool} {io : Option Nat} {rs : List Res} {ins : Sl} {vs : List V} (h : argsV brw io env 0 rs = some ins) (hr : RsAll K σ Hk rs vs) : ins.length = vs.length := by
  rw [(argsV_get h).1, hr.len]
theorem io_pos {brw : Bool} {q : Nat} {rs : List Res} {ins : Sl} {i : Nat} (h : argsV brw (some q) env 0 rs = some ins) (hq : rs[q]? = some (.slt i)) : ∃ c s, ins[q]? = some (.io q c) ∧ env[i]? = some s ∧ s.mut := by
  obtain ⟨s, q1, q2⟩ := (argsV_get h).2 q _ hq
  rw [Nat.zero_add] at q2
  unfold argV at q2
  rw [if_pos rfl] at q2
  cases ej : env[i]? with
  | none => simp only [ej] at q2; cases q2
  | some s2 =>
    simp only [ej] at q2
    cases s2 with
    | no => cases q2
    | val d => cases q2
    | scr d => cases q2
    | own c2 =>
      cases q2
      exact ⟨_, _, q1, rfl, trivial⟩
    | io l c2 =>
      cases q2
      exact ⟨_, _, q1, rfl, trivial⟩
/-- what stands behind a call, for any knowledge Hk2 between -/
theorem Rel.after (R : Rel K B env σ Hk H) {brw : Bool} {io : Option Nat} {rs : List Res} {ins outs e2 : Sl} {vs : List V} {Hk2 : Hp} (h : argsV brw io env 0 rs = some ins) (hr : RsAll K σ Hk rs vs) (hb : backV io env rs outs = some e2)
    (kn : Same Hk Hk2) (ex : Same Hk2 H') (fr : ∀ a, Hk2 a ≠ none → Hk a = none → H a = none) (kp : ∀ a o, H a = some o → (∀ k, ioA ins vs k ≠ some a) → H' a = some o)
    (hio : ∀ k a c', ioA ins vs k = some a → outs[k]? = some (.io k c') → CellAt K Hk2 H' a c') (hk : ∀ k a, ioA ins vs k = some a → ∃ c', outs[k]? = some (.io k c')) : Rel K B e2 σ Hk2 H' := by
  rcases back_is hb with ⟨rfl, rfl⟩ | ⟨q, i, k, c, s, rfl, h1, h2, h3, rfl⟩
  · refine R.grow kn ex (same_of_keep kp fun k => ?_) fr
    cases e : ioA ins vs k with
    | none => rfl
    | some a => cases (io_at R h hr e).1
  · obtain ⟨c0, s0, g1, g2, g3⟩ := io_pos h h1
    rw [h3] at g2
    cases g2
    obtain ⟨a, e1, _, _, _⟩ := R.mutAt h3 g3
    have hql : q < vs.length := by
      rw [← hr.len]
      exact (List.getElem?_eq_some_iff.mp h1).1
    obtain ⟨r, z1, z2⟩ := hr.get q _ (List.getElem?_eq_getElem hql)
    rw [h1] at z1
    cases z1
    have z2 : σ[i]? = some (some vs[q]) := z2
    rw [e1] at z2
    have hv : vs[q]? = some (.ref a) := by
      rw [List.getElem?_eq_getElem hql]
      exact congrArg some (Option.some.inj (Option.some.inj z2)).symm
    have hA : ioA ins vs q = some a := ioA_is g1 hv
    obtain ⟨c', h4⟩ := hk q a hA
    rw [h2] at h4
    cases h4
    refine R.called kn ex fr h3 g3 e1 (fun b o hb hne => kp b o hb fun k z => ?_) (hio q a c hA h2)
    have := (io_at R h hr z).1
    cases this
    rw [hA] at z
    exact hne (Option.some.inj z).symm
theorem argVal {brw : Bool} {io : Option Nat} {i : Nat} {r : Res} {s : Slot} (hio : io ≠ some i) (h : argV brw io env i r = some s) :
    (∃ d, r = .dat d ∧ s = .val d) ∨ ∃ j, r = .slt j ∧ ((∃ d, env[j]? = some (.val d) ∧ s = .val d) ∨ (∃ ns, env[j]? = some (.scr ns) ∧ s = .scr ns) ∨ (brw = true ∧ ∃ ds t, env[j]? = some t ∧ t.mut ∧ (t = .own (.lst ds) ∨ ∃ l, t = .io l (.lst ds)) ∧ s = .val (.list ds))) := by
  unfold argV at h
  rw [if_neg hio] at h
  cases r with
  | dat d =>
    cases h
    exact .inl ⟨d, rfl, rfl⟩
  | new d => cases h
  | slt j =>
    refine .inr ⟨j, rfl, ?_⟩
    cases ej : env[j]? with
    | none => simp only [ej] at h; cases h
    | some t =>
      simp only [ej] at h
      cases t with
      | no => cases h
      | val d =>
        cases h
        exact .inl ⟨d, rfl, rfl⟩
      | scr ns =>
        cases h
        exact .inr (.inl ⟨ns, rfl, rfl⟩)
      | own c =>
        cases c with
        | lst ds =>
          cases brw with
          | true =>
            cases h
            exact .inr (.inr ⟨rfl, ds, _, rfl, trivial, .inl rfl, rfl⟩)
          | false => cases h
      | io l c =>
        cases c with
        | lst ds =>
          cases brw with
          | true =>
            cases h
            exact .inr (.inr ⟨rfl, ds, _, rfl, trivial, .inr ⟨l, rfl⟩, rfl⟩)
          | false => cases h
/-- the arguments, seen with what is lent known -/
theorem args_ok (R : Rel K B env σ Hk H) {brw : Bool} {io : Option Nat} {rs : List Res} {ins : Sl} {vs : List V} {Hl : Hp} (sm : Same Hk Hl) (hn : ∀ i j s a, io = some i → rs[i]? = some (.slt j) → env[j]? = some s → s.mut → σ[j]? = some (some (V.ref a)) → Hl a = none)
    (hl : ∀ i j s a, brw = true → io ≠ some i → rs[i]? = some (.slt j) → env[j]? = some s → s.mut → σ[j]? = some (some (V.ref a)) → Hl a = H a) (h : argsV brw io env 0 rs = some ins) (hr : RsAll K σ Hk rs vs) : ArgsOk K Hl H ins vs where
  len := args_len h hr
  arg := fun i s v e1 e2 => by
    obtain ⟨r, q1, q2⟩ := hr.get i v e2
    obtain ⟨s', z1, z2⟩ := (argsV_get h).2 i r q1
    rw [e1] at z1
    cases z1
    rw [Nat.zero_add] at z2
    by_cases hio : io = some i
    · cases s with
      | io k c =>
        obtain ⟨_, _, j, s2, g1, g2, g3, g4⟩ := args_io h e1
        rw [q1] at g1
        cases g1
        obtain ⟨a, w1, w2, w3, _⟩ := R.mutAt g2 g3
        have q2 : σ[j]? = some (some v) := q2
        have : v = .ref a := by rw [w1] at q2; exact (Option.some.inj (Option.some.inj q2)).symm
        subst this
        exact ⟨a, rfl, hn i j s2 a hio q1 g2 g3 w1, (CellAt.slot R g2 g4 w1).mono sm fun o z => z⟩
      | _ =>
        unfold argV at z2
        rw [if_pos hio] at z2
        cases r with
        | dat d => cases z2
        | new d => cases z2
        | slt j =>
          cases ej : env[j]? with
          | none => simp only [ej] at z2; cases z2
          | some s => simp only [ej] at z2; cases s <;> simp at z2
    · rcases argVal hio z2 with ⟨d, rfl, rfl⟩ | ⟨j, rfl, ⟨d, ej, rfl⟩ | ⟨ns, ej, rfl⟩ | ⟨hb, ds, t, ej, tm, tc, rfl⟩⟩
      · exact dv_mono sm _ _ q2
      · have q2 : σ[j]? = some (some v) := q2
        obtain ⟨o, w1, w2⟩ := R.slot j _ ej
        rw [q2] at w1
        cases w1
        obtain ⟨v', x1, x2⟩ := w2
        cases x1
        exact dv_mono sm _ _ x2
      · have q2 : σ[j]? = some (some v) := q2
        obtain ⟨o, w1, w2⟩ := R.slot j _ ej
        rw [q2] at w1
        cases w1
        obtain ⟨a, x1, x2⟩ := w2
        cases x1
        exact ⟨a, rfl, sm.seq x2⟩
      · have q2 : σ[j]? = some (some v) := q2
        obtain ⟨a, w1, w2, w3, _⟩ := R.mutAt ej tm
        have : v = .ref a := by rw [w1] at q2; exact (Option.some.inj (Option.some.inj q2)).symm
        subst this
        obtain ⟨xs, y1, y2⟩ := CellAt.slot R ej tc w1
        refine .lst (xs := xs) ?_ (dvAll_mono sm _ _ y2)
        rw [hl i j t a hb hio q1 ej tm w1]
        exact y1
  ix := fun i k c e => (args_io h e).1
  sep := fun i j k l c c' a e1 e2 _ _ => by
    have h1 := (args_io h e1).2.1
    have h2 := (args_io h e2).2.1
    rw [h1] at h2
    exact Option.some.inj h2
theorem res_after (R : Rel K B env σ Hk H) {io : Option Nat} {rs : List Res} {outs e2 : Sl} (hb : backV io env rs outs = some e2) {a : Addr} (ha : H a = none) : ∀ (j : Nat) s, e2[j]? = some s → s.mut → σ[j]? ≠ some (some (V.ref a)) := fun j s hj hm z => by
  rcases back_is hb with ⟨_, rfl⟩ | ⟨q, i, k', c', s', _, _, _, g3, rfl⟩
  · exact R.mutNe ha hj hm z
  · rcases set_get hj with ⟨rfl, rfl⟩ | ⟨_, hj⟩
    · exact R.mutNe ha g3 (by cases s' <;> exact hm) z
    · exact R.mutNe ha hj hm z
theorem callV_run {fm : FM} {io : Option Nat} {ms : MA} {Q : VK} (h : tE K (mCallV fm io ms) σ H Q) : tCall (spF K fm) [] E0 (tA K ms) σ H Q := by
  obtain ⟨B, env, Hk, res, env', R, hm, k⟩ := h
  obtain ⟨⟨rs, e1⟩, h1, hm⟩ := Option.bind_eq_some_iff.mp hm
  obtain ⟨ins, h2, hm⟩ := Option.bind_eq_some_iff.mp hm
  obtain ⟨⟨r, outs⟩, h3, hm⟩ := Option.bind_eq_some_iff.mp hm
  obtain ⟨e2, h4, hm⟩ := Option.map_eq_some_iff.mp hm
  cases hm
  refine ⟨B, env, Hk, rs, e1, R, h1, fun vs Hk1 H1 R1 s1 o1 => ?_⟩
  show spF K fm (vs ++ []) H1 Q E0
  rw [List.append_nil]
  have A : ArgsOk K Hk1 H1 ins vs := args_ok R1 (Same.refl _) (fun i j s a _ _ g1 g2 g3 => by
    obtain ⟨b, w1, w2, _⟩ := R1.mutAt g1 g2
    rw [g3] at w1
    cases w1
    exact w2) (fun i j s a z => by cases z) h2 o1
  refine ⟨Hk1, ins, r, outs, R1.ex, A, h3, fun v Hk2 H2 p => ?_⟩
  have R2 : Rel K B env' σ Hk2 H2 := R1.after h2 o1 h4 p.kn p.ex p.fr p.kp (fun k a c' e1 e2 => by
    obtain ⟨c2, g1, _, g2⟩ := p.io k a e1
    rw [e2] at g1
    cases g1
    exact g2) fun k a e => let ⟨c2, g1, _⟩ := p.io k a e; ⟨c2, g1⟩
  refine k v Hk2 H2 R2 (s1.trans p.kn) ?_
  have hres := p.res
  cases r with
  | dat d => exact hres
  | slt i => cases hres
  | new c =>
    obtain ⟨a, rfl, q1, q2, q3⟩ := hres
    exact ⟨a, rfl, q1, R1.fresh0 q2, q3, res_after R1 h4 q2⟩
/-! lent lists -/
theorem flat_dv {d : PyData} {v : V} (h : flatD d = true) (q : Dv K Hk v d) (Hk2 : Hp) : Dv K Hk2 v d := by
  cases q with
  | non => exact .non
  | bl b => exact .bl b
  | int i => exact .int i
  | str x => exact .str x
  | lst _ _ => cases h
  | tup _ _ => cases h
theorem flat_dvs (Hk2 : Hp) : ∀ {ds : List PyData} {vs : List V}, ds.all flatD = true → DvAll K Hk vs ds → DvAll K Hk2 vs ds
  | [], _, _, .nil => .nil
  | d :: ds, _, h, .cons h1 h2 => by
    simp only [List.all_cons, Bool.and_eq_true] at h
    exact .cons (flat_dv h.1 h1 Hk2) (flat_dvs Hk2 h.2 h2)
open Classical in
/-- known, and what is lent -/
noncomputable def lent (rs : List Res) (io : Option Nat) (env : Sl) (σ : St) (Hk H : Hp) : Hp := fun a => if ∃ (p : Nat) (j : Nat) (s : Slot), rs[p]? = some (.slt j) ∧ io ≠ some p ∧ env[j]? = some s ∧ s.mut ∧ σ[j]? = some (some (V.ref a)) then H a else Hk a
theorem lent_same (R : Rel K B env σ Hk H) {rs : List Res} {io : Option Nat} : Same Hk (lent rs io env σ Hk H) := fun a o e => by
  unfold lent
  rw [if_neg]
  · exact e
  · rintro ⟨p, j, s, _, _, g1, g2, g3⟩
    obtain ⟨b, w1, w2, _⟩ := R.mutAt g1 g2
    rw [g3] at w1
    cases w1
    rw [e] at w2
    cases w2
theorem lent_ex (s : Same Hk H) {rs : List Res} {io : Option Nat} : Same (lent rs io env σ Hk H) H := fun a o e => by
  unfold lent at e
  split at e
  · exact e
  · exact s a o e
theorem lent_no (R : Rel K B env σ Hk H) {rs : List Res} {io : Option Nat} (hL : lentOk io rs = true) (i j : Nat) (s : Slot) (a : Addr) (hio : io = some i) (h1 : rs[i]? = some (.slt j)) (h2 : env[j]? = some s) (h3 : s.mut) (h4 : σ[j]? = some (some (V.ref a))) : lent rs io env σ Hk H a = none := by
  obtain ⟨b, w1, w2, _⟩ := R.mutAt h2 h3
  rw [h4] at w1
  cases w1
  unfold lent
  rw [if_neg]
  · exact w2
  · rintro ⟨p, j', s', x1, x2, x3, x4, x5⟩
    have hp : p < rs.length := (List.getElem?_eq_some_iff.mp x1).1
    subst hio
    simp only [lentOk, h1, List.all_eq_true, List.mem_range, Bool.or_eq_true, beq_iff_eq] at hL
    rcases hL p hp with y | y
    · exact x2 (by rw [y])
    · rw [x1] at y
      simp only [bne_iff_ne, ne_eq] at y
      exact y (R.sep j' j s' s a x3 h2 x4 h3 x5 h4)
theorem callF_run {fm : FM} {io : Option Nat} {ms : MA} {Q : VK} (h : tE K (mCallF fm io ms) σ H Q) : tCall (spF K fm) [] E0 (tA K ms) σ H Q := by
  obtain ⟨B, env, Hk, res, env', R, hm, k⟩ := h
  obtain ⟨⟨rs, e1⟩, h1, hm⟩ := Option.bind_eq_some_iff.mp hm
  by_cases hL : lentOk io rs = true
  · have hm : (if lentOk io rs = true then _ else _) = some (res, env') := hm
    rw [if_pos hL] at hm
    obtain ⟨ins, h2, hm⟩ := Option.bind_eq_some_iff.mp hm
    obtain ⟨⟨r, outs⟩, h3, hm⟩ := Option.bind_eq_some_iff.mp hm
    by_cases hF : (flatR r && outs.all flatS) = true
    · have hm : (if (flatR r && outs.all flatS) = true then _ else _) = some (res, env') := hm
      rw [if_pos hF] at hm
      obtain ⟨e2, h4, hm⟩ := Option.map_eq_some_iff.mp hm
      cases hm
      rw [Bool.and_eq_true] at hF
      refine ⟨B, env, Hk, rs, e1, R, h1, fun vs Hk1 H1 R1 s1 o1 => ?_⟩
      show spF K fm (vs ++ []) H1 Q E0
      rw [List.append_nil]
      have sm : Same Hk1 (lent rs io e1 σ Hk1 H1) := lent_same R1
      have A : ArgsOk K (lent rs io e1 σ Hk1 H1) H1 ins vs := args_ok R1 sm (lent_no R1 hL) (fun i j s a _ g0 g1 g2 g3 g4 => by
        unfold lent
        rw [if_pos ⟨i, j, s, g1, g0, g2, g3, g4⟩]) h2 o1
      refine ⟨_, ins, r, outs, lent_ex R1.ex, A, h3, fun v Hk2 H2 p => ?_⟩
      have R2 : Rel K B env' σ Hk1 H2 := R1.after h2 o1 h4 (Same.refl _) ((sm.trans p.kn).trans p.ex) (fun a g1 g2 => absurd g2 g1) p.kp (fun k a c' e1 e2 => by
        obtain ⟨c2, g1, _, g2⟩ := p.io k a e1
        rw [e2] at g1
        cases g1
        have hfl := List.all_eq_true.mp hF.2 _ (List.mem_of_getElem? e2)
        cases c' with
        | lst ds =>
          obtain ⟨xs, y1, y2⟩ := g2
          exact ⟨xs, y1, flat_dvs Hk1 hfl y2⟩) fun k a e => let ⟨c2, g1, _⟩ := p.io k a e; ⟨c2, g1⟩
      refine k v Hk1 H2 R2 s1 ?_
      have hres := p.res
      have hfr := hF.1
      cases r with
      | dat d => exact flat_dv hfr hres Hk1
      | slt i => cases hres
      | new c =>
        cases c with
        | lst ds =>
          obtain ⟨a, rfl, q1, q2, xs, y1, y2⟩ := hres
          exact ⟨a, rfl, R1.kfree q2, R1.fresh0 q2, ⟨xs, y1, flat_dvs Hk1 hfr y2⟩, res_after R1 h4 q2⟩
    · have hm : (if (flatR r && outs.all flatS) = true then _ else _) = some (res, env') := hm
      rw [if_neg hF] at hm
      cases hm
  · have hm : (if lentOk io rs = true then _ else _) = some (res, env') := hm
    rw [if_neg hL] at hm
    cases hm
end
section
variable {X : Cx} {k : Nat} {f : Addr} {fd : FuncData} {ps : List Str} {fm : FM} {x : Str} {p pos : Pos} {e : Expr} {es : List Expr} {ms : MA}
theorem ve_callV (io : Option Nat) (F : FnOk X.prog X.w X.K X.mg X.base CX0 k f fd ps (spF X.K fm)) (hr : Room k X.A) (hm : X.mg x = some (.ref f)) (hk : PySem.W.keepIn X.K (.ref f) = true) (hb : Binds X.K fd ps [])
    (ha : VA X (e :: es) ms) (hg : Gl X x := by rfl) (hdb : (x == ("__debug__" : Str)) = false := by decide) (he : starEach (e :: es) X.env = (false, eval e X.env) :: starEach es X.env := by rfl) (hpl : (backTo pos (starEach es X.env)).any (·.1) = false := by rfl) :
    VE X (.Call (.Name x p) (e :: es) [] pos) (mCallV fm io ms) := (pe_call F hr hg hm hk hb .nil pass0 ha hdb he hpl).imp fun _ _ _ => callV_run
theorem ve_callF (io : Option Nat) (F : FnOk X.prog X.w X.K X.mg X.base CX0 k f fd ps (spF X.K fm)) (hr : Room k X.A) (hm : X.mg x = some (.ref f)) (hk : PySem.W.keepIn X.K (.ref f) = true) (hb : Binds X.K fd ps [])
    (ha : VA X (e :: es) ms) (hg : Gl X x := by rfl) (hdb : (x == ("__debug__" : Str)) = false := by decide) (he : starEach (e :: es) X.env = (false, eval e X.env) :: starEach es X.env := by rfl) (hpl : (backTo pos (starEach es X.env)).any (·.1) = false := by rfl) :
    VE X (.Call (.Name x p) (e :: es) [] pos) (mCallF fm io ms) := (pe_call F hr hg hm hk hb .nil pass0 ha hdb he hpl).imp fun _ _ _ => callF_run
end
end Cm
namespace Cm
open PySem L2
/-! ### operators -/
section
variable {X : Cx} {K : PySem.W.Frag}
theorem opr_or {f : Value → Value → Sem Value} {r r' : R2} (h : OpR X f r) (h' : OpR X f r') : OpR X f (fun x y H Q => r x y H Q ∨ r' x y H Q) := by
  intro pins s σ H x y v u Q I rx ry q
  rcases q with q | q
  · exact h pins s σ H x y v u Q I rx ry q
  · exact h' pins s σ H x y v u Q I rx ry q
theorem callr_or {f : Value} {r r' : List V → Hp → VK → Prop} (h : CallR X f r) (h' : CallR X f r') : CallR X f (fun xs H Q => r xs H Q ∨ r' xs H Q) := by
  intro pins s σ H xs us Q I r q
  rcases q with q | q
  · exact h pins s σ H xs us Q I r q
  · exact h' pins s σ H xs us Q I r q
def oI (i : Int) : Option Res := some (.dat (.int i))
def oB (b : Bool) : Option Res := some (.dat (.bool b))
def oS (x : Str) : Option Res := some (.dat (.str x))
/-- + -/
def gAdd : PyData → PyData → Option Res
  | .int i, .int j => some (.dat (.int (i + j)))
  | .str x, .str y => if x.length + y.length ≤ 100000 then some (.dat (.str (x ++ y))) else none
  | .list xs, .list ys => if xs.length + ys.length ≤ 100000 then some (.new (.lst (xs ++ ys))) else none
  | _, _ => none
def rAdd3 : R2 := fun x y H Q => (rI0 (fun i j => .int (i + j)) x y H Q) ∨ ((∃ i j, x = .str i ∧ y = .str j ∧ i.length + j.length ≤ sizeLine ∧ Q (.str (i ++ j)) H) ∨ rCat x y H Q)
theorem or_add : OpR X (binaryOp .Add) rAdd3 := opr_or op_add (opr_or op_add_str op_cat)
theorem od_add : OpD K rAdd3 gAdd := by
  intro Hk H x y dx dy res Q e vx vy h q
  unfold gAdd at h
  split at h
  · cases h
    exact .inl ⟨_, _, vx.int, vy.int, q _ _ (.inl ⟨rfl, .int _⟩)⟩
  · split at h
    · rename_i hz
      cases h
      exact .inr (.inl ⟨_, _, vx.str, vy.str, sz_of hz, q _ _ (.inl ⟨rfl, .str _⟩)⟩)
    · cases h
  · split at h
    · rename_i hz
      cases h
      obtain ⟨a, vs, rfl, h1, h2⟩ := vx.list e
      obtain ⟨b, ws, rfl, h3, h4⟩ := vy.list e
      exact .inr (.inr ⟨a, b, vs, ws, rfl, rfl, h1, h3, by rw [h2.len, h4.len]; exact sz_of hz, fun p hp => q _ _ ⟨p, _, rfl, hp, rfl, h2.append h4⟩⟩)
    · cases h
  · cases h
def gMinus : PyData → PyData → Option Res
  | .int i, .int j => some (.dat (.int (i - j)))
  | _, _ => none
theorem od_sub : OpD K (rI0 (fun i j => .int (i - j))) gMinus := by
  intro Hk H x y dx dy res Q e vx vy h q
  unfold gMinus at h
  split at h
  · cases h
    exact ⟨_, _, vx.int, vy.int, q _ _ (.inl ⟨rfl, .int _⟩)⟩
  · cases h
/-- * -/
def repD (ds : List PyData) (k : Int) : List PyData := (List.replicate k.toNat ds).flatten
def gMul : PyData → PyData → Option Res
  | .int i, .int j => if (-(2 ^ 64) < i ∧ i < 2 ^ 64) ∨ (-(2 ^ 64) < j ∧ j < 2 ^ 64) then some (.dat (.int (i * j))) else none
  | .list ds, .int k => if -(2 ^ 63) ≤ k ∧ k < 2 ^ 63 ∧ ds.length * k.toNat ≤ 100000 then some (.new (.lst (repD ds k))) else none
  | _, _ => none
def rMul2 : R2 := fun x y H Q => rI CMul (fun i j => .int (i * j)) x y H Q ∨ rRep x y H Q
theorem or_mul : OpR X (binaryOp .Mult) rMul2 := opr_or op_mul op_rep
theorem dv_rep {Hk : Hp} {vs : List V} {ds : List PyData} (h : DvAll K Hk vs ds) : ∀ n : Nat, DvAll K Hk (List.replicate n vs).flatten (List.replicate n ds).flatten
  | 0 => .nil
  | n + 1 => by
    rw [List.replicate_succ, List.replicate_succ, List.flatten_cons, List.flatten_cons]
    exact h.append (dv_rep h n)
theorem od_mul : OpD K rMul2 gMul := by
  intro Hk H x y dx dy res Q e vx vy h q
  unfold gMul at h
  split at h
  · split at h
    · rename_i hz
      cases h
      exact .inl ⟨_, _, vx.int, vy.int, hz, q _ _ (.inl ⟨rfl, .int _⟩)⟩
    · cases h
  · split at h
    · rename_i hz
      cases h
      obtain ⟨a, vs, rfl, h1, h2⟩ := vx.list e
      exact .inr ⟨a, _, vs, rfl, vy.int, h1, hz.1, hz.2.1, by rw [h2.len]; exact sz_of hz.2.2, fun p hp => q _ _ ⟨p, _, rfl, hp, rfl, dv_rep h2 _⟩⟩
    · cases h
  · cases h
def gDiv : PyData → PyData → Option Res
  | .int i, .int j => if 0 < j ∧ j < 1073741824 then some (.dat (.int (i / j))) else none
  | _, _ => none
theorem od_div : OpD K (rI CDiv (fun i j => .int (i / j))) gDiv := by
  intro Hk H x y dx dy res Q e vx vy h q
  unfold gDiv at h
  split at h
  · split at h
    · rename_i hz
      cases h
      exact ⟨_, _, vx.int, vy.int, hz, q _ _ (.inl ⟨rfl, .int _⟩)⟩
    · cases h
  · cases h
def gMod : PyData → PyData → Option Res
  | .int i, .int j => if 0 < j then some (.dat (.int (i % j))) else none
  | _, _ => none
theorem od_mod : OpD K (rI (fun _ j => 0 < j) (fun i j => .int (i % j))) gMod := by
  intro Hk H x y dx dy res Q e vx vy h q
  unfold gMod at h
  split at h
  · split at h
    · rename_i hz
      cases h
      exact ⟨_, _, vx.int, vy.int, hz, q _ _ (.inl ⟨rfl, .int _⟩)⟩
    · cases h
  · cases h
def gPow : PyData → PyData → Option Res
  | .int i, .int j => if 0 ≤ j ∧ j ≤ 1000000 ∧ i.natAbs < 2 ^ 64 then some (.dat (.int (i ^ j.toNat))) else none
  | _, _ => none
theorem od_pow : OpD K (rI CPow (fun i j => .int (i ^ j.toNat))) gPow := by
  intro Hk H x y dx dy res Q e vx vy h q
  unfold gPow at h
  split at h
  · split at h
    · rename_i hz
      cases h
      exact ⟨_, _, vx.int, vy.int, hz, q _ _ (.inl ⟨rfl, .int _⟩)⟩
    · cases h
  · cases h
def gNeg : PyData → Option Res
  | .int i => some (.dat (.int (-i)))
  | _ => none
theorem ud_neg : UnD K (rU fun i => .int (-i)) gNeg := by
  intro Hk H x dx res Q e vx h q
  unfold gNeg at h
  split at h
  · cases h
    exact ⟨_, vx.int, q _ _ (.inl ⟨rfl, .int _⟩)⟩
  · cases h
/-! ### comparisons -/
def gCmp (p : Int → Int → Bool) : PyData → PyData → Option Res
  | .int i, .int j => some (.dat (.bool (p i j)))
  | _, _ => none
theorem od_cmp {p : Int → Int → Bool} : OpD K (rI0 fun i j => .bl (p i j)) (gCmp p) := by
  intro Hk H x y dx dy res Q e vx vy h q
  unfold gCmp at h
  split at h
  · cases h
    exact ⟨_, _, vx.int, vy.int, q _ _ (.inl ⟨rfl, .bl _⟩)⟩
  · cases h
def scalD : PyData → PyData → Bool
  | .none, .none => true | .none, .int _ => true | .int _, .none => true | .none, .bool _ => true | .bool _, .none => true | .none, .str _ => true | .str _, .none => true
  | .int _, .int _ => true | .bool _, .bool _ => true | .str _, .str _ => true
  | .int _, .str _ => true | .str _, .int _ => true | .bool _, .str _ => true | .str _, .bool _ => true
  | _, _ => false
def gEq (neg : Bool) (dx dy : PyData) : Option Res := if (scalD dx dy || (SeqAt.shaped dx && SeqAt.shaped dy)) = true then some (.dat (.bool (neg ^^ PyData.eqv dx dy))) else none
def rEqU (K : PySem.W.Frag) : R2 := fun x y H Q => rEq x y H Q ∨ rEqD K x y H Q
def rNeU (K : PySem.W.Frag) : R2 := fun x y H Q => rNe x y H Q ∨ rNeD K x y H Q
theorem or_eq (hu : X.A.units + 64 < cLine) : OpR X (compareOp .Eq) (rEqU X.K) := opr_or op_eq (op_eqD hu)
theorem or_ne (hu : X.A.units + 64 < cLine) : OpR X (compareOp .NotEq) (rNeU X.K) := opr_or op_ne (op_neD hu)
theorem scal_eq {Hk H : Hp} {x y : V} {dx dy : PyData} (vx : View K Hk H x dx) (vy : View K Hk H y dy) (h : scalD dx dy = true) : scal x y = true ∧ decide (x = y) = PyData.eqv dx dy := by
  cases dx with
  | none =>
    rw [vx.non]
    cases dy with
    | none => rw [vy.non]; exact ⟨rfl, rfl⟩
    | int j => rw [vy.int]; exact ⟨rfl, rfl⟩
    | bool j => rw [vy.bool]; exact ⟨rfl, rfl⟩
    | str j => rw [vy.str]; exact ⟨rfl, rfl⟩
    | _ => cases h
  | int i =>
    rw [vx.int]
    cases dy with
    | none => rw [vy.non]; exact ⟨rfl, rfl⟩
    | int j => rw [vy.int]; exact ⟨rfl, dec_int⟩
    | str j => rw [vy.str]; exact ⟨rfl, rfl⟩
    | _ => cases h
  | bool i =>
    rw [vx.bool]
    cases dy with
    | none => rw [vy.non]; exact ⟨rfl, rfl⟩
    | bool j => rw [vy.bool]; exact ⟨rfl, dec_bl⟩
    | str j => rw [vy.str]; exact ⟨rfl, rfl⟩
    | _ => cases h
  | str i =>
    rw [vx.str]
    cases dy with
    | none => rw [vy.non]; exact ⟨rfl, rfl⟩
    | int j => rw [vy.int]; exact ⟨rfl, rfl⟩
    | bool j => rw [vy.bool]; exact ⟨rfl, rfl⟩
    | str j => rw [vy.str]; exact ⟨rfl, dec_str⟩
    | _ => cases h
  | list _ => cases dy <;> cases h
  | tuple _ => cases dy <;> cases h
  | dict _ => cases dy <;> cases h
theorem od_eq : OpD K (rEqU K) (gEq false) := by
  intro Hk H x y dx dy res Q e vx vy h q
  unfold gEq at h
  split at h
  · rename_i hz
    cases h
    rw [Bool.false_xor] at q
    rcases Bool.or_eq_true_iff.mp hz with hz | hz
    · obtain ⟨h1, h2⟩ := scal_eq vx vy hz
      refine .inl ⟨h1, ?_⟩
      rw [h2]
      exact q _ _ (.inl ⟨rfl, .bl _⟩)
    · rw [Bool.and_eq_true] at hz
      exact .inr ⟨dx, dy, (vx.dv e).dp, (vy.dv e).dp, hz.1, hz.2, q _ _ (.inl ⟨rfl, .bl _⟩)⟩
  · cases h
theorem od_ne : OpD K (rNeU K) (gEq true) := by
  intro Hk H x y dx dy res Q e vx vy h q
  unfold gEq at h
  split at h
  · rename_i hz
    cases h
    rw [Bool.true_xor] at q
    rcases Bool.or_eq_true_iff.mp hz with hz | hz
    · obtain ⟨h1, h2⟩ := scal_eq vx vy hz
      refine .inl ⟨h1, ?_⟩
      rw [h2]
      exact q _ _ (.inl ⟨rfl, .bl _⟩)
    · rw [Bool.and_eq_true] at hz
      exact .inr ⟨dx, dy, (vx.dv e).dp, (vy.dv e).dp, hz.1, hz.2, q _ _ (.inl ⟨rfl, .bl _⟩)⟩
  · cases h
/-- is None -/
def isNoneD : PyData → Bool
  | .none => true
  | _ => false
def gIsN (neg : Bool) : PyData → PyData → Option Res
  | d, .none => some (.dat (.bool (neg ^^ isNoneD d)))
  | _, _ => none
theorem isN_v {Hk H : Hp} {x : V} {dx : PyData} (vx : View K Hk H x dx) (e : Same Hk H) : decide (x = .non) = isNoneD dx := by
  have h := vx.dv e
  cases h <;> rfl
theorem od_isN : OpD K (fun x y H Q => y = .non ∧ Q (.bl (decide (x = .non))) H) (gIsN false) := by
  intro Hk H x y dx dy res Q e vx vy h q
  unfold gIsN at h
  split at h
  · cases h
    refine ⟨vy.non, ?_⟩
    rw [isN_v vx e]
    rw [Bool.false_xor] at q
    exact q _ _ (.inl ⟨rfl, .bl _⟩)
  · cases h
theorem od_notN : OpD K (fun x y H Q => y = .non ∧ Q (.bl (!decide (x = .non))) H) (gIsN true) := by
  intro Hk H x y dx dy res Q e vx vy h q
  unfold gIsN at h
  split at h
  · cases h
    refine ⟨vy.non, ?_⟩
    rw [isN_v vx e]
    rw [Bool.true_xor] at q
    exact q _ _ (.inl ⟨rfl, .bl _⟩)
  · cases h
/-! ### subscripts -/
def gIx : PyData → PyData → Option Res
  | .list ds, .int i => (atI ds i).map .dat
  | .tuple ds, .int i => (atI ds i).map .dat
  | .str z, .int i => if z.length ≤ 100000 then (atI z.cps.toList i).map fun c => .dat (.str ⟨#[c]⟩) else none
  | _, _ => none
theorem at_dv {Hk : Hp} {vs : List V} {ds : List PyData} (h : DvAll K Hk vs ds) {i : Int} {d : PyData} (e : atI ds i = some d) : ∃ v, atI vs i = some v ∧ Dv K Hk v d := by
  unfold atI at e ⊢
  rw [h.len]
  obtain ⟨j, h1, h2⟩ := Option.bind_eq_some_iff.mp e
  obtain ⟨v, h3, h4⟩ := h.get j d h2
  exact ⟨v, by rw [h1]; exact h3, h4⟩
theorem od_ix : OpD K (rIx K) gIx := by
  intro Hk H x y dx dy res Q e vx vy h q
  unfold gIx at h
  split at h
  · obtain ⟨d, h1, rfl⟩ := Option.map_eq_some_iff.mp h
    obtain ⟨a, vs, rfl, g1, g2⟩ := vx.list e
    obtain ⟨v, g3, g4⟩ := at_dv g2 h1
    exact .inl ⟨a, vs, _, v, rfl, vy.int, SqL.of g1, g3, q _ _ (.inl ⟨rfl, g4⟩)⟩
  · obtain ⟨d, h1, rfl⟩ := Option.map_eq_some_iff.mp h
    obtain ⟨a, vs, rfl, g1, g2⟩ := vx.tup e
    obtain ⟨v, g3, g4⟩ := at_dv g2 h1
    exact .inr (.inl ⟨a, vs, _, v, rfl, vy.int, g1, g3, q _ _ (.inl ⟨rfl, g4⟩)⟩)
  · split at h
    · rename_i hz
      obtain ⟨c, h1, rfl⟩ := Option.map_eq_some_iff.mp h
      exact .inr (.inr ⟨_, _, c, vx.str, vy.int, sz_of hz, h1, q _ _ (.inl ⟨rfl, .str _⟩)⟩)
    · cases h
  · cases h
/-! ### slices -/
def cutD (ds : List PyData) (lo hi : Option Int) : List PyData := (ds.drop (HT.sIx ds.length 0 lo)).take (HT.sIx ds.length ds.length hi - HT.sIx ds.length 0 lo)
theorem cut_dv {Hk : Hp} {vs : List V} {ds : List PyData} (h : DvAll K Hk vs ds) (lo hi : Option Int) : DvAll K Hk (cutV vs lo hi) (cutD ds lo hi) := by
  unfold cutV cutD
  rw [h.len]
  exact (h.drop _).take _
abbrev MO := Sl → Option (Option Int × Sl)
def tO (K : PySem.W.Frag) (m : MO) : TO := fun σ H Q => ∃ B env Hk o env', Rel K B env σ Hk H ∧ m env = some (o, env') ∧ ∀ Hk' H', Rel K B env' σ Hk' H' → Same Hk Hk' → Q o H'
def mNoPart : MO := fun env => some (none, env)
def mPart (m : ME) : MO := fun env => (m env).bind fun p => match p.1 with
  | .dat (.int i) => some (some i, p.2)
  | _ => none
abbrev VO (X : Cx) (e : Option Expr) (m : MO) : Prop := PO X e (tO X.K m)
theorem _root_.L2.PO.imp {X : Cx} {e : Option Expr} {t t' : TO} (h : PO X e t) (k : ∀ σ H Q, t' σ H Q → t σ H Q) : PO X e t' := ⟨fun pins s σ H Q I q => h.run pins s σ H Q I (k σ H Q q)⟩
theorem vo_none : VO X none mNoPart := po_none.imp fun σ H Q h => by
  obtain ⟨B, env, Hk, o, env', R, hm, k⟩ := h
  cases hm
  exact k Hk H R (Same.refl _)
theorem vo_some {e : Expr} {m : ME} (h : VE X e m) : VO X (some e) (mPart m) := (po_some h).imp fun σ H Q h => by
  obtain ⟨B, env, Hk, o, env', R, hm, k⟩ := h
  obtain ⟨⟨r, e1⟩, h1, hm⟩ := Option.bind_eq_some_iff.mp hm
  refine ⟨B, env, Hk, r, e1, R, h1, fun v Hk1 H1 R1 s1 o1 => ?_⟩
  cases r with
  | new c => cases hm
  | slt i => cases hm
  | dat d =>
    cases d with
    | int i =>
      cases hm
      cases o1
      exact ⟨i, rfl, k Hk1 H1 R1 s1⟩
    | _ => cases hm
def SlD (K : PySem.W.Frag) (r : V → Option Int → Option Int → Hp → VK → Prop) (g : PyData → Option Int → Option Int → Option Res) : Prop := ∀ (Hk H : Hp) (x : V) (dx : PyData) (lo hi : Option Int) (res : Res) (Q : VK), Same Hk H → View K Hk H x dx → g dx lo hi = some res → (∀ v H', Out K Hk H res v H' → Q v H') → r x lo hi H Q
def mSl (g : PyData → Option Int → Option Int → Option Res) (m : ME) (ml mh : MO) : ME := fun env => (m env).bind fun p => (ml p.2).bind fun a => (mh a.2).bind fun b => (rdv b.2 (stab p.1)).bind fun dx => (g dx a.1 b.1).map fun r => (r, b.2)
theorem sl_run {r : V → Option Int → Option Int → Hp → VK → Prop} {g : PyData → Option Int → Option Int → Option Res} {m : ME} {ml mh : MO} (hg : SlD K r g) {σ : St} {H : Hp} {Q : VK} (h : tE K (mSl g m ml mh) σ H Q) : tSl r (tE K m) (tO K ml) (tO K mh) σ H Q := by
  obtain ⟨B, env, Hk, res, env', R, hm, k⟩ := h
  obtain ⟨⟨x, e1⟩, h1, hm⟩ := Option.bind_eq_some_iff.mp hm
  obtain ⟨⟨lo, e2⟩, h2, hm⟩ := Option.bind_eq_some_iff.mp hm
  obtain ⟨⟨hi, e3⟩, h3, hm⟩ := Option.bind_eq_some_iff.mp hm
  obtain ⟨dx, h4, hm⟩ := Option.bind_eq_some_iff.mp hm
  obtain ⟨res', h5, hm⟩ := Option.map_eq_some_iff.mp hm
  cases hm
  refine ⟨B, env, Hk, x, e1, R, h1, fun v Hk1 H1 R1 s1 o1 => ?_⟩
  obtain ⟨Hk1', R1', s1', o1'⟩ := R1.stab o1
  refine ⟨B, e1, Hk1', lo, e2, R1', h2, fun Hk2 H2 R2 s2 => ?_⟩
  refine ⟨B, e2, Hk2, hi, e3, R2, h3, fun Hk3 H3 R3 s3 => ?_⟩
  refine hg Hk3 H3 v dx lo hi res Q R3.ex (R3.view ((o1'.mono s2).mono s3) h4) h5 fun z H4 out => ?_
  obtain ⟨Hk4, R4, s4, o4⟩ := R3.out out
  exact k z Hk4 H4 R4 ((((s1.trans s1').trans s2).trans s3).trans s4) o4
theorem ve_slice {r : V → Option Int → Option Int → Hp → VK → Prop} {g : PyData → Option Int → Option Int → Option Res} {e : Expr} {lo hi : Option Expr} {m : ME} {ml mh : MO} {p2 pos : Pos} (hr : SlR X r) (hg : SlD X.K r g) (he : VE X e m) (hl : VO X lo ml) (hu : VO X hi mh) : VE X (.Subscript e (.Slice lo hi none p2) pos) (mSl g m ml mh) :=
  (pe_slice hr he hl hu).imp fun _ _ _ => sl_run hg
def gSlL : PyData → Option Int → Option Int → Option Res
  | .list ds, lo, hi => some (.new (.lst (cutD ds lo hi)))
  | _, _, _ => none
theorem sd_list : SlD K (rSlL K) gSlL := by
  intro Hk H x dx lo hi res Q e vx h q
  unfold gSlL at h
  split at h
  · cases h
    obtain ⟨a, vs, rfl, g1, g2⟩ := vx.list e
    exact ⟨a, vs, rfl, SqL.of g1, fun p hp => q _ _ ⟨p, _, rfl, hp, rfl, cut_dv g2 lo hi⟩⟩
  · cases h
/-- script[a:b] -/
def mSlScr (i : Nat) (ml mh : MO) : ME := fun env => match env[i]? with
  | some (.scr ns) => (ml env).bind fun a => (mh a.2).map fun b => (.new (.lst (cutD (ns.map .int) a.1 b.1)), b.2)
  | _ => none
theorem dv_ints {Hk : Hp} : ∀ ns : List Int, DvAll K Hk (ns.map V.int) (ns.map .int)
  | [] => .nil
  | n :: ns => .cons (.int n) (dv_ints ns)
theorem slScr_run {i : Nat} {ml mh : MO} {σ : St} {H : Hp} {Q : VK} (h : tE K (mSlScr i ml mh) σ H Q) : tSl (rSlL K) (tVar i) (tO K ml) (tO K mh) σ H Q := by
  obtain ⟨B, env, Hk, res, env', R, hm, k⟩ := h
  unfold mSlScr at hm
  split at hm
  · rename_i ns he
    obtain ⟨⟨lo, e2⟩, h2, hm⟩ := Option.bind_eq_some_iff.mp hm
    obtain ⟨⟨hi, e3⟩, h3, hm⟩ := Option.map_eq_some_iff.mp hm
    cases hm
    obtain ⟨o, g1, a, rfl, g2⟩ := R.slot i _ he
    refine ⟨_, g1, B, env, Hk, lo, e2, R, h2, fun Hk2 H2 R2 s2 => ?_⟩
    refine ⟨B, e2, Hk2, hi, _, R2, h3, fun Hk3 H3 R3 s3 => ?_⟩
    refine ⟨a, _, rfl, R3.ex.seq ((s2.trans s3).seq g2), fun p hp => ?_⟩
    obtain ⟨Hk4, R4, s4, o4⟩ := R3.out (r := .new (.lst (cutD (ns.map .int) lo hi))) ⟨p, _, rfl, hp, rfl, cut_dv (dv_ints ns) lo hi⟩
    exact k _ Hk4 _ R4 ((s2.trans s3).trans s4) o4
  · cases hm
theorem ve_sliceScr (i : Nat) {x : Str} {lo hi : Option Expr} {ml mh : MO} {p1 p2 pos : Pos} (hl : VO X lo ml) (hu : VO X hi mh) (hN : X.N[i]? = some x := by rfl) (hv : Vis X.env.scope x := by first | exact Or.inl rfl | exact Or.inr (Or.inl rfl) | exact Or.inr (Or.inr rfl)) (hd : (x == ("__debug__" : Str)) = false := by decide)
    (hcd : (x == ("__classdict__" : Str)) = false := by decide) : VE X (.Subscript (.Name x p1) (.Slice lo hi none p2) pos) (mSlScr i ml mh) := (pe_slice sl_list (pe_var hN hv hd hcd) hl hu).imp fun _ _ _ => slScr_run
/-! ### built-ins -/
def gLen : List PyData → Option Res
  | [.list ds] => some (.dat (.int ds.length))
  | [.tuple ds] => some (.dat (.int ds.length))
  | [.str x] => if x.length ≤ 100000 then some (.dat (.int x.length)) else none
  | _ => none
theorem cd_len : CallD K (fun xs H Q => ∃ x n, xs = [x] ∧ LenV K x H n ∧ Q (.int n) H) gLen := by
  intro Hk H vs ds res Q e hv h q
  unfold gLen at h
  split at h
  · cases h
    cases hv with
    | cons v1 v2 =>
      cases v2
      obtain ⟨a, ws, rfl, g1, g2⟩ := v1.list e
      exact ⟨_, _, rfl, .inl ⟨ws, SqL.of g1, rfl⟩, by rw [g2.len]; exact q _ _ (.inl ⟨rfl, .int _⟩)⟩
  · cases h
    cases hv with
    | cons v1 v2 =>
      cases v2
      obtain ⟨a, ws, rfl, g1, g2⟩ := v1.tup e
      exact ⟨_, _, rfl, .inr ⟨ws, g1, rfl⟩, by rw [g2.len]; exact q _ _ (.inl ⟨rfl, .int _⟩)⟩
  · split at h
    · rename_i hz
      cases h
      cases hv with
      | cons v1 v2 =>
        cases v2
        rw [v1.str]
        exact ⟨_, _, rfl, ⟨sz_of hz, rfl⟩, q _ _ (.inl ⟨rfl, .int _⟩)⟩
    · cases h
  · cases h
def gInt1 (f : Int → Int) : List PyData → Option Res
  | [.int i] => some (.dat (.int (f i)))
  | _ => none
theorem cd_int1 {f : Int → Int} : CallD K (fun xs H Q => ∃ i, xs = [.int i] ∧ Q (.int (f i)) H) (gInt1 f) := by
  intro Hk H vs ds res Q e hv h q
  unfold gInt1 at h
  split at h
  · cases h
    cases hv with
    | cons v1 v2 =>
      cases v2
      rw [v1.int]
      exact ⟨_, rfl, q _ _ (.inl ⟨rfl, .int _⟩)⟩
  · cases h
def gInt2 (f : Int → Int → Int) : List PyData → Option Res
  | [.int i, .int j] => some (.dat (.int (f i j)))
  | _ => none
theorem cd_int2 {f : Int → Int → Int} : CallD K (fun xs H Q => ∃ i j, xs = [.int i, .int j] ∧ Q (.int (f i j)) H) (gInt2 f) := by
  intro Hk H vs ds res Q e hv h q
  unfold gInt2 at h
  split at h
  · cases h
    cases hv with
    | cons v1 v2 =>
      cases v2 with
      | cons v2 v3 =>
        cases v3
        rw [v1.int, v2.int]
        exact ⟨_, _, rfl, q _ _ (.inl ⟨rfl, .int _⟩)⟩
  · cases h
def gInt : List PyData → Option Res
  | [.int i] => some (.dat (.int i))
  | [.bool b] => some (.dat (.int (if b then 1 else 0)))
  | _ => none
theorem cd_int : CallD K (fun xs H Q => (∃ i, xs = [.int i] ∧ Q (.int i) H) ∨ ∃ k, xs = [.bl k] ∧ Q (.int (if k then 1 else 0)) H) gInt := by
  intro Hk H vs ds res Q e hv h q
  unfold gInt at h
  split at h
  · cases h
    cases hv with
    | cons v1 v2 =>
      cases v2
      rw [v1.int]
      exact .inl ⟨_, rfl, q _ _ (.inl ⟨rfl, .int _⟩)⟩
  · cases h
    cases hv with
    | cons v1 v2 =>
      cases v2
      rw [v1.bool]
      exact .inr ⟨_, rfl, q _ _ (.inl ⟨rfl, .int _⟩)⟩
  · cases h
def gStr : List PyData → Option Res
  | [.int i] => if i.natAbs.log2 < 1920 then some (.dat (.str (toString i))) else none
  | _ => none
theorem cd_str : CallD K (fun xs H Q => ∃ i, xs = [.int i] ∧ i.natAbs.log2 < 1920 ∧ Q (.str (toString i)) H) gStr := by
  intro Hk H vs ds res Q e hv h q
  unfold gStr at h
  split at h
  · split at h
    · rename_i hz
      cases h
      cases hv with
      | cons v1 v2 =>
        cases v2
        rw [v1.int]
        exact ⟨_, rfl, hz, q _ _ (.inl ⟨rfl, .str _⟩)⟩
    · cases h
  · cases h
def intsD : List PyData → Option (List Int)
  | [] => some []
  | .int i :: ds => (intsD ds).map (i :: ·)
  | _ => none
def boolsD : List PyData → Option (List Bool)
  | [] => some []
  | .bool i :: ds => (boolsD ds).map (i :: ·)
  | _ => none
theorem ints_dv {Hk : Hp} : ∀ {ds : List PyData} {vs : List V} {ns : List Int}, DvAll K Hk vs ds → intsD ds = some ns → vs = ns.map V.int
  | [], _, ns, .nil, h => by cases h; rfl
  | .int i :: ds, _, ns, .cons h1 h2, h => by
    obtain ⟨ms, e1, e2⟩ := Option.map_eq_some_iff.mp h
    subst e2
    cases h1
    rw [ints_dv h2 e1]
    rfl
  | .none :: ds, _, ns, .cons h1 h2, h => by cases h
  | .bool _ :: ds, _, ns, .cons h1 h2, h => by cases h
  | .str _ :: ds, _, ns, .cons h1 h2, h => by cases h
  | .list _ :: ds, _, ns, .cons h1 h2, h => by cases h
  | .tuple _ :: ds, _, ns, .cons h1 h2, h => by cases h
  | .dict _ :: ds, _, ns, .cons h1 h2, h => by cases h
theorem bools_dv {Hk : Hp} : ∀ {ds : List PyData} {vs : List V} {ns : List Bool}, DvAll K Hk vs ds → boolsD ds = some ns → vs = ns.map V.bl
  | [], _, ns, .nil, h => by cases h; rfl
  | .bool i :: ds, _, ns, .cons h1 h2, h => by
    obtain ⟨ms, e1, e2⟩ := Option.map_eq_some_iff.mp h
    subst e2
    cases h1
    rw [bools_dv h2 e1]
    rfl
  | .none :: ds, _, ns, .cons h1 h2, h => by cases h
  | .int _ :: ds, _, ns, .cons h1 h2, h => by cases h
  | .str _ :: ds, _, ns, .cons h1 h2, h => by cases h
  | .list _ :: ds, _, ns, .cons h1 h2, h => by cases h
  | .tuple _ :: ds, _, ns, .cons h1 h2, h => by cases h
  | .dict _ :: ds, _, ns, .cons h1 h2, h => by cases h
def gSum : List PyData → Option Res
  | [.list ds] => (intsD ds).map fun ns => .dat (.int ns.sum)
  | _ => none
theorem cd_sum : CallD K (rSum K) gSum := by
  intro Hk H vs ds res Q e hv h q
  unfold gSum at h
  split at h
  · obtain ⟨ns, h1, rfl⟩ := Option.map_eq_some_iff.mp h
    cases hv with
    | cons v1 v2 =>
      cases v2
      obtain ⟨a, ws, rfl, g1, g2⟩ := v1.list e
      rw [ints_dv g2 h1] at g1
      exact ⟨a, ns, rfl, SqL.of g1, q _ _ (.inl ⟨rfl, .int _⟩)⟩
  · cases h
def gAll : List PyData → Option Res
  | [.list ds] => (boolsD ds).map fun ns => .dat (.bool (ns.all id))
  | _ => none
theorem cd_all : CallD K (rAll K) gAll := by
  intro Hk H vs ds res Q e hv h q
  unfold gAll at h
  split at h
  · obtain ⟨ns, h1, rfl⟩ := Option.map_eq_some_iff.mp h
    cases hv with
    | cons v1 v2 =>
      cases v2
      obtain ⟨a, ws, rfl, g1, g2⟩ := v1.list e
      rw [bools_dv g2 h1] at g1
      exact ⟨a, ns, rfl, SqL.of g1, q _ _ (.inl ⟨rfl, .bl _⟩)⟩
  · cases h
def gAny : List PyData → Option Res
  | [.list ds] => (boolsD ds).map fun ns => .dat (.bool (ns.any id))
  | _ => none
theorem cd_any : CallD K (rAny K) gAny := by
  intro Hk H vs ds res Q e hv h q
  unfold gAny at h
  split at h
  · obtain ⟨ns, h1, rfl⟩ := Option.map_eq_some_iff.mp h
    cases hv with
    | cons v1 v2 =>
      cases v2
      obtain ⟨a, ws, rfl, g1, g2⟩ := v1.list e
      rw [bools_dv g2 h1] at g1
      exact ⟨a, ns, rfl, SqL.of g1, q _ _ (.inl ⟨rfl, .bl _⟩)⟩
  · cases h
def gList : List PyData → Option Res
  | [.list ds] => some (.new (.lst ds))
  | [.tuple ds] => some (.new (.lst ds))
  | _ => none
theorem cd_list : CallD K (fun xs H Q => ∃ p ys, xs = [.ref p] ∧ (SqL K H p ys ∨ SqT K H p ys) ∧ ∀ l, H l = none → Q (.ref l) (upd H l (.lst ys))) gList := by
  intro Hk H vs ds res Q e hv h q
  unfold gList at h
  split at h
  · cases h
    cases hv with
    | cons v1 v2 =>
      cases v2
      obtain ⟨a, ws, rfl, g1, g2⟩ := v1.list e
      exact ⟨a, ws, rfl, .inl (SqL.of g1), fun l hl => q _ _ ⟨l, ws, rfl, hl, rfl, g2⟩⟩
  · cases h
    cases hv with
    | cons v1 v2 =>
      cases v2
      obtain ⟨a, ws, rfl, g1, g2⟩ := v1.tup e
      exact ⟨a, ws, rfl, .inr g1, fun l hl => q _ _ ⟨l, ws, rfl, hl, rfl, g2⟩⟩
  · cases h
/-! ### what is walked -/
def mRange1 (ms : MA) : MI := fun env => (ms env).bind fun p => (rdAll p.2 p.1).bind fun ds => match ds with
  | [.int j] => if -(2 ^ 62) ≤ j ∧ j < 2 ^ 62 then some ((List.range j.toNat).map fun i => .int (i : Nat), p.2) else none
  | _ => none
theorem iter_range {lo : Int} {n : Nat} {Hk : Hp} : IterOk K Hk (Itr lo n) ((List.range n).map fun i => .int (lo + (i : Nat))) := by
  intro Hk2 H2 _ _ i
  refine ⟨fun d hd => ?_, fun hl => ?_⟩
  · rw [List.getElem?_map] at hd
    obtain ⟨j, h1, rfl⟩ := Option.map_eq_some_iff.mp hd
    obtain ⟨h2, h3⟩ := List.getElem?_eq_some_iff.mp h1
    rw [List.getElem_range] at h3
    subst h3
    rw [List.length_range] at h2
    refine ⟨h2, fun x H' y => ?_⟩
    obtain ⟨rfl, rfl⟩ := y
    exact .inl ⟨rfl, .int _⟩
  · rw [List.length_map, List.length_range] at hl
    exact hl
theorem range1_run {ms : MA} {σ : St} {H : Hp} {R : It → Hp → Prop} (h : tI K (mRange1 ms) σ H R) : iRng1 (tA K ms) σ H R := by
  obtain ⟨B, env, Hk, ds, env', R0, hm, k⟩ := h
  obtain ⟨⟨rs, e1⟩, h1, hm⟩ := Option.bind_eq_some_iff.mp hm
  obtain ⟨es, h2, hm⟩ := Option.bind_eq_some_iff.mp hm
  refine ⟨B, env, Hk, rs, e1, R0, h1, fun vs Hk1 H1 R1 s1 o1 => ?_⟩
  have hv := R1.views o1 h2
  split at hm
  · rename_i j
    split at hm
    · rename_i hz
      cases hm
      cases hv with
      | cons v1 v2 =>
        cases v2
        rw [v1.int]
        refine ⟨j, rfl, hz.1, hz.2, k _ Hk1 H1 R1 s1 ?_⟩
        have := iter_range (K := K) (lo := 0) (n := j.toNat) (Hk := Hk1)
        simpa using this
    · cases hm
  · cases hm
theorem vi_range1 {tg a : Expr} {ms : MA} {p pos : Pos} (hm : X.mg "range" = none) (ha : VA X [a] ms) (hg : Gl X "range" := by rfl) (hs : starEach [a] X.env = [(false, eval a X.env)] := by rfl) : VI X tg (.Call (.Name "range" p) [a] [] pos) (mRange1 ms) := (pi_range1 hg hm ha hs).imp fun _ _ _ => range1_run
def mRange2 (ms : MA) : MI := fun env => (ms env).bind fun p => (rdAll p.2 p.1).bind fun ds => match ds with
  | [.int i, .int j] => if (-(2 ^ 62) ≤ i ∧ i < 2 ^ 62) ∧ -(2 ^ 62) ≤ j ∧ j < 2 ^ 62 then some ((List.range (j - i).toNat).map fun k => .int (i + (k : Nat)), p.2) else none
  | _ => none
theorem range2_run {ms : MA} {σ : St} {H : Hp} {R : It → Hp → Prop} (h : tI K (mRange2 ms) σ H R) : iRng2 (tA K ms) σ H R := by
  obtain ⟨B, env, Hk, ds, env', R0, hm, k⟩ := h
  obtain ⟨⟨rs, e1⟩, h1, hm⟩ := Option.bind_eq_some_iff.mp hm
  obtain ⟨es, h2, hm⟩ := Option.bind_eq_some_iff.mp hm
  refine ⟨B, env, Hk, rs, e1, R0, h1, fun vs Hk1 H1 R1 s1 o1 => ?_⟩
  have hv := R1.views o1 h2
  split at hm
  · rename_i i j
    split at hm
    · rename_i hz
      cases hm
      cases hv with
      | cons v1 v2 =>
        cases v2 with
        | cons v2 v3 =>
          cases v3
          rw [v1.int, v2.int]
          exact ⟨i, j, rfl, ⟨hz.1.1, hz.1.2, hz.2.1, hz.2.2⟩, k _ Hk1 H1 R1 s1 iter_range⟩
    · cases hm
  · cases hm
theorem vi_range2 {tg a b : Expr} {ms : MA} {p pos : Pos} (hm : X.mg "range" = none) (ha : VA X [a, b] ms) (hg : Gl X "range" := by rfl) (hs : starEach [a, b] X.env = [(false, eval a X.env), (false, eval b X.env)] := by rfl) (hs2 : starEach [b] X.env = [(false, eval b X.env)] := by rfl) : VI X tg (.Call (.Name "range" p) [a, b] [] pos) (mRange2 ms) := (pi_range2 hg hm ha hs hs2).imp fun _ _ _ => range2_run
/-- a list (frozen) -/
def mItL (m : ME) : MI := fun env => (mFrz m env).bind fun p => match p.1 with
  | .dat (.list ds) => some (ds, p.2)
  | _ => none
theorem iter_list {a : Addr} {xs : List V} {ds : List PyData} {Hk : Hp} (h : Hk a = some (.lst xs)) (hd : DvAll K Hk xs ds) : IterOk K Hk (Itl K a) ds := by
  intro Hk2 H2 s2 e2 i
  have hq : SqL K H2 a xs := SqL.of (e2 _ _ (s2 _ _ h))
  refine ⟨fun d hi => ?_, fun hl => ⟨xs, hq, by rw [hd.len]; exact hl⟩⟩
  obtain ⟨v, g1, g2⟩ := hd.get i d hi
  refine ⟨⟨xs, v, hq, g1⟩, fun x H' y => ?_⟩
  obtain ⟨rfl, y⟩ := y
  have := y xs hq
  rw [g1] at this
  cases this
  exact .inl ⟨rfl, dv_mono s2 _ _ g2⟩
theorem itL_run {m : ME} {σ : St} {H : Hp} {R : It → Hp → Prop} (h : tI K (mItL m) σ H R) : iList K (tE K (mFrz m)) σ H R := by
  obtain ⟨B, env, Hk, ds, env', R0, hm, k⟩ := h
  obtain ⟨⟨r, e1⟩, h1, hm⟩ := Option.bind_eq_some_iff.mp hm
  refine ⟨B, env, Hk, r, e1, R0, h1, fun v Hk1 H1 R1 s1 o1 => ?_⟩
  cases r with
  | new c => cases hm
  | slt i => cases hm
  | dat d =>
    cases d with
    | list ds =>
      cases hm
      cases o1 with
      | lst g1 g2 => exact ⟨_, rfl, ⟨_, SqL.of (R1.ex _ _ g1)⟩, k _ Hk1 H1 R1 s1 (iter_list g1 g2)⟩
    | _ => cases hm
theorem vi_list {tg e : Expr} {m : ME} (h : VE X e m) : VI X tg e (mItL m) := (pi_list (ve_frz h)).imp fun _ _ _ => itL_run
/-- a tuple -/
def mItT (m : ME) : MI := fun env => (mFrz m env).bind fun p => match p.1 with
  | .dat (.tuple ds) => some (ds, p.2)
  | _ => none
theorem iter_tup {a : Addr} {xs : List V} {ds : List PyData} {Hk : Hp} (h : SqT K Hk a xs) (hd : DvAll K Hk xs ds) : IterOk K Hk (Itt K a) ds := by
  intro Hk2 H2 s2 e2 i
  have hq : SqT K H2 a xs := same_tup e2 (same_tup s2 h)
  refine ⟨fun d hi => ?_, fun hl => ⟨xs, hq, by rw [hd.len]; exact hl⟩⟩
  obtain ⟨v, g1, g2⟩ := hd.get i d hi
  refine ⟨⟨xs, v, hq, g1⟩, fun x H' y => ?_⟩
  obtain ⟨rfl, y⟩ := y
  have := y xs hq
  rw [g1] at this
  cases this
  exact .inl ⟨rfl, dv_mono s2 _ _ g2⟩
theorem itT_run {m : ME} {σ : St} {H : Hp} {R : It → Hp → Prop} (h : tI K (mItT m) σ H R) : iTup K (tE K (mFrz m)) σ H R := by
  obtain ⟨B, env, Hk, ds, env', R0, hm, k⟩ := h
  obtain ⟨⟨r, e1⟩, h1, hm⟩ := Option.bind_eq_some_iff.mp hm
  refine ⟨B, env, Hk, r, e1, R0, h1, fun v Hk1 H1 R1 s1 o1 => ?_⟩
  cases r with
  | new c => cases hm
  | slt i => cases hm
  | dat d =>
    cases d with
    | tuple ds =>
      cases hm
      cases o1 with
      | tup g1 g2 => exact ⟨_, rfl, ⟨_, same_tup R1.ex g1⟩, k _ Hk1 H1 R1 s1 (iter_tup g1 g2)⟩
    | _ => cases hm
theorem vi_tup {tg e : Expr} {m : ME} (h : VE X e m) : VI X tg e (mItT m) := (pi_tup (ve_frz h)).imp fun _ _ _ => itT_run
/-- enumerate(list) -/
def enumD : Nat → List PyData → List PyData
  | _, [] => []
  | i, d :: ds => .tuple [.int (i : Nat), d] :: enumD (i + 1) ds
theorem enumD_len : ∀ (i : Nat) (ds : List PyData), (enumD i ds).length = ds.length
  | _, [] => rfl
  | i, d :: ds => by
    show (enumD (i + 1) ds).length + 1 = _
    rw [enumD_len (i + 1) ds]
    rfl
theorem enumD_get : ∀ (k : Nat) (ds : List PyData) (i : Nat) (d : PyData), (enumD k ds)[i]? = some d → ∃ x, ds[i]? = some x ∧ d = .tuple [.int ((k + i : Nat) : Int), x]
  | _, [], i, d, h => by simp [enumD] at h
  | k, x :: ds, 0, d, h => by
    simp [enumD] at h
    exact ⟨x, rfl, by rw [← h]; simp⟩
  | k, x :: ds, i + 1, d, h => by
    obtain ⟨y, h1, h2⟩ := enumD_get (k + 1) ds i d (by simpa [enumD] using h)
    exact ⟨y, by simpa using h1, by rw [h2]; congr 3; omega⟩
def mEnum (ms : MA) : MI := fun env => (ms env).bind fun p => match p.1 with
  | [.dat (.list ds)] => some (enumD 0 ds, p.2)
  | _ => none
theorem enum_run {ms : MA} {σ : St} {H : Hp} {R : It → Hp → Prop} (h : tI K (mEnum ms) σ H R) : iEnum K (tA K ms) σ H R := by
  obtain ⟨B, env, Hk, ds, env', R0, hm, k⟩ := h
  obtain ⟨⟨rs, e1⟩, h1, hm⟩ := Option.bind_eq_some_iff.mp hm
  refine ⟨B, env, Hk, rs, e1, R0, h1, fun vs Hk1 H1 R1 s1 o1 => ?_⟩
  split at hm
  · rename_i xs he
    cases hm
    have he : rs = [.dat (.list xs)] := he
    subst he
    cases o1 with
    | cons o1 o2 =>
      cases o2
      cases o1 with
      | lst g1 g2 =>
        refine ⟨_, _, rfl, SqL.of (R1.ex _ _ g1), k _ Hk1 H1 R1 s1 ?_⟩
        intro Hk2 H2 s2 e2 i
        refine ⟨fun d hi => ?_, fun hl => ⟨_, SqL.of (e2 _ _ (s2 _ _ g1)), by rw [g2.len]; rw [enumD_len] at hl; exact hl⟩⟩
        obtain ⟨x, q1, rfl⟩ := enumD_get 0 _ i d hi
        obtain ⟨v, q2, q3⟩ := g2.get i x q1
        refine ⟨⟨_, v, SqL.of (e2 _ _ (s2 _ _ g1)), q2⟩, fun y H' z => ?_⟩
        obtain ⟨T, v', rfl, hT, rfl, hx⟩ := z
        have := hx _ (SqL.of (e2 _ _ (s2 _ _ g1)))
        rw [q2] at this
        cases this
        refine .inr ⟨T, _, _, rfl, rfl, hT, rfl, .cons ?_ (.cons (dv_mono s2 _ _ q3) .nil)⟩
        rw [Nat.zero_add]
        exact .int _
  · cases hm
theorem vi_enum {e : Expr} {ms : MA} {p pos tpos : Pos} {elts : List Expr} {kk : Nat} (hm : X.mg "enumerate" = none) (ha : VA X [e] ms) (hg : Gl X "enumerate" := by rfl) (hs : starEach [e] X.env = [(false, eval e X.env)] := by rfl) :
    VI X (.Tuple elts kk tpos) (.Call (.Name "enumerate" p) [e] [] pos) (mEnum ms) := (pi_enum hg hm ha hs).imp fun _ _ _ => enum_run
/-- zip(list, list) -/
def zipD : List PyData → List PyData → List PyData
  | x :: xs, y :: ys => .tuple [x, y] :: zipD xs ys
  | _, _ => []
theorem zipD_get : ∀ (xs ys : List PyData) (i : Nat) (d : PyData), (zipD xs ys)[i]? = some d → ∃ x y, xs[i]? = some x ∧ ys[i]? = some y ∧ d = .tuple [x, y]
  | [], _, i, d, h => by simp [zipD] at h
  | _ :: _, [], i, d, h => by simp [zipD] at h
  | x :: xs, y :: ys, 0, d, h => by
    simp [zipD] at h
    exact ⟨x, y, rfl, rfl, h.symm⟩
  | x :: xs, y :: ys, i + 1, d, h => by
    obtain ⟨a, b, h1, h2, h3⟩ := zipD_get xs ys i d (by simpa [zipD] using h)
    exact ⟨a, b, by simpa using h1, by simpa using h2, h3⟩
theorem zipD_len : ∀ (xs ys : List PyData), (zipD xs ys).length = min xs.length ys.length
  | [], _ => by simp [zipD]
  | _ :: _, [] => by simp [zipD]
  | x :: xs, y :: ys => by
    show (zipD xs ys).length + 1 = _
    rw [zipD_len xs ys, List.length_cons, List.length_cons]
    omega
def mZip (ms : MA) : MI := fun env => (ms env).bind fun p => match p.1 with
  | [.dat (.list xs), .dat (.list ys)] => some (zipD xs ys, p.2)
  | _ => none
theorem zip_run {ms : MA} {σ : St} {H : Hp} {R : It → Hp → Prop} (h : tI K (mZip ms) σ H R) : iZip K (tA K ms) σ H R := by
  obtain ⟨B, env, Hk, ds, env', R0, hm, k⟩ := h
  obtain ⟨⟨rs, e1⟩, h1, hm⟩ := Option.bind_eq_some_iff.mp hm
  refine ⟨B, env, Hk, rs, e1, R0, h1, fun vs Hk1 H1 R1 s1 o1 => ?_⟩
  split at hm
  · rename_i xs ys he
    cases hm
    have he : rs = [.dat (.list xs), .dat (.list ys)] := he
    subst he
    cases o1 with
    | cons o1 o2 =>
      cases o2 with
      | cons o2 o3 =>
        cases o3
        cases o1 with
        | lst g1 g2 =>
          cases o2 with
          | lst g3 g4 =>
            refine ⟨_, _, _, _, rfl, SqL.of (R1.ex _ _ g1), SqL.of (R1.ex _ _ g3), k _ Hk1 H1 R1 s1 ?_⟩
            intro Hk2 H2 s2 e2 i
            have w1 := SqL.of (K := K) (e2 _ _ (s2 _ _ g1))
            have w2 := SqL.of (K := K) (e2 _ _ (s2 _ _ g3))
            refine ⟨fun d hi => ?_, fun hl => ⟨_, _, w1, w2, by rw [g2.len, g4.len]; rw [zipD_len] at hl; omega⟩⟩
            obtain ⟨x, y, q1, q2, rfl⟩ := zipD_get _ _ i d hi
            obtain ⟨v, q3, q4⟩ := g2.get i x q1
            obtain ⟨u, q5, q6⟩ := g4.get i y q2
            refine ⟨⟨_, _, v, u, w1, w2, q3, q5⟩, fun z H' hz => ?_⟩
            obtain ⟨T, v', u', rfl, hT, rfl, hx, hy⟩ := hz
            have c1 := hx _ w1
            have c2 := hy _ w2
            rw [q3] at c1
            rw [q5] at c2
            cases c1
            cases c2
            exact .inr ⟨T, _, _, rfl, rfl, hT, rfl, .cons (dv_mono s2 _ _ q4) (.cons (dv_mono s2 _ _ q6) .nil)⟩
  · cases hm
theorem vi_zip {e e2 : Expr} {ms : MA} {p pos tpos : Pos} {elts : List Expr} {kk : Nat} (hm : X.mg "zip" = none) (ha : VA X [e, e2] ms) (hg : Gl X "zip" := by rfl) (hs : starEach [e, e2] X.env = (false, eval e X.env) :: starEach [e2] X.env := by rfl) (hpl : (backTo pos (starEach [e2] X.env)).any (·.1) = false := by rfl) :
    VI X (.Tuple elts kk tpos) (.Call (.Name "zip" p) [e, e2] [] pos) (mZip ms) := (pi_zip hg hm ha hs hpl).imp fun _ _ _ => zip_run
/-- reversed(list) -/
def mRev (ms : MA) : MI := fun env => (ms env).bind fun p => match p.1 with
  | [.dat (.list xs)] => some (xs.reverse, p.2)
  | _ => none
theorem rev_run {ms : MA} {σ : St} {H : Hp} {R : It → Hp → Prop} (h : tI K (mRev ms) σ H R) : iRev K (tA K ms) σ H R := by
  obtain ⟨B, env, Hk, ds, env', R0, hm, k⟩ := h
  obtain ⟨⟨rs, e1⟩, h1, hm⟩ := Option.bind_eq_some_iff.mp hm
  refine ⟨B, env, Hk, rs, e1, R0, h1, fun vs Hk1 H1 R1 s1 o1 => ?_⟩
  split at hm
  · rename_i xs he
    cases hm
    have he : rs = [.dat (.list xs)] := he
    subst he
    cases o1 with
    | cons o1 o2 =>
      cases o2
      cases o1 with
      | lst g1 g2 =>
        refine ⟨_, _, rfl, SqL.of (R1.ex _ _ g1), k _ Hk1 H1 R1 s1 ?_⟩
        intro Hk2 H2 s2 e2 i
        have w1 := SqL.of (K := K) (e2 _ _ (s2 _ _ g1))
        refine ⟨fun d hi => ?_, fun hl => by rw [List.length_reverse, ← g2.len] at hl; exact hl⟩
        have hlt : i < xs.length := by
          have := (List.getElem?_eq_some_iff.mp hi).1
          rw [List.length_reverse] at this
          exact this
        rw [List.getElem?_reverse hlt] at hi
        obtain ⟨v, q3, q4⟩ := g2.get _ d hi
        rw [← g2.len] at q3 hlt
        refine ⟨⟨hlt, _, v, w1, q3⟩, fun z H' hz => ?_⟩
        obtain ⟨rfl, hx⟩ := hz
        have c1 := hx _ w1
        rw [q3] at c1
        cases c1
        exact .inl ⟨rfl, dv_mono s2 _ _ q4⟩
  · cases hm
theorem vi_rev {tg e : Expr} {ms : MA} {p pos : Pos} (hm : X.mg "reversed" = none) (ha : VA X [e] ms) (hg : Gl X "reversed" := by rfl) (hs : starEach [e] X.env = [(false, eval e X.env)] := by rfl) :
    VI X tg (.Call (.Name "reversed" p) [e] [] pos) (mRev ms) := (pi_reversed hg hm ha hs).imp fun _ _ _ => rev_run
end
end Cm
namespace Cm
open PySem L2
/-- the list that a name may change -/
def lstAt (env : Sl) (i : Nat) : Option (Slot × List PyData) := match env[i]? with
  | some (.own (.lst ds)) => some (.own (.lst ds), ds)
  | some (.io k (.lst ds)) => some (.io k (.lst ds), ds)
  | _ => none
section
variable {X : Cx} {K : PySem.W.Frag} {B : Fb} {env : Sl} {σ : St} {Hk H : Hp}
theorem Rel.lstAt (R : Rel K B env σ Hk H) {i : Nat} {s : Slot} {ds : List PyData} (h : Cm.lstAt env i = some (s, ds)) : ∃ a vs, env[i]? = some s ∧ s.mut ∧ σ[i]? = some (some (V.ref a)) ∧ H a = some (.lst vs) ∧ DvAll K Hk vs ds := by
  unfold Cm.lstAt at h
  split at h
  · rename_i ds' e
    cases h
    obtain ⟨o, g1, a, rfl, q1, q2, vs, q3, q4⟩ := R.slot i _ e
    exact ⟨a, vs, e, trivial, g1, q3, q4⟩
  · rename_i k ds' e
    cases h
    obtain ⟨o, g1, a, rfl, q1, q2, vs, q3, q4⟩ := R.slot i _ e
    exact ⟨a, vs, e, trivial, g1, q3, q4⟩
  · cases h
/-- a method that changes its list -/
def MutD (K : PySem.W.Frag) (r : V → List V → Hp → VK → Prop) (f : List PyData → List PyData → Option (List PyData × PyData)) : Prop := ∀ (Hk H : Hp) (l : Addr) (vs ws : List V) (ds es ds' : List PyData) (ret : PyData) (Q : VK), Same Hk H → H l = some (.lst vs) → DvAll K Hk vs ds → DvAll K Hk ws es → f ds es = some (ds', ret) →
  (∀ vs' v, DvAll K Hk vs' ds' → Dv K Hk v ret → Q v (upd H l (.lst vs'))) → r (.ref l) ws H Q
def mMut (i : Nat) (f : List PyData → List PyData → Option (List PyData × PyData)) (ms : MA) : ME := fun env => (lstAt env i).bind fun _ => (ms env).bind fun p => (dats p.1).bind fun es => (lstAt p.2 i).bind fun q => (f q.2 es).map fun z => (.dat z.2, p.2.set i (q.1.put (.lst z.1)))
theorem mut_run {i : Nat} {r : V → List V → Hp → VK → Prop} {f : List PyData → List PyData → Option (List PyData × PyData)} {ms : MA} (hf : MutD K r f) {Q : VK} (h : tE K (mMut i f ms) σ H Q) : tBM K "list" r (tVar i) (tA K ms) σ H Q := by
  obtain ⟨B, env, Hk, res, env', R, hm, k⟩ := h
  obtain ⟨⟨s0, ds0⟩, h0, hm⟩ := Option.bind_eq_some_iff.mp hm
  obtain ⟨⟨rs, e1⟩, h1, hm⟩ := Option.bind_eq_some_iff.mp hm
  obtain ⟨es, h2, hm⟩ := Option.bind_eq_some_iff.mp hm
  obtain ⟨⟨s, ds⟩, h3, hm⟩ := Option.bind_eq_some_iff.mp hm
  obtain ⟨⟨ds', ret⟩, h4, hm⟩ := Option.map_eq_some_iff.mp hm
  cases hm
  obtain ⟨a, vs0, g1, g2, g3, g4, g5⟩ := R.lstAt h0
  refine ⟨_, g3, .inl ⟨rfl, vs0, SqL.of g4⟩, ?_⟩
  refine ⟨B, env, Hk, rs, e1, R, h1, fun ws Hk1 H1 R1 s1 o1 => ?_⟩
  obtain ⟨a', vs, q1, q2, q3, q4, q5⟩ := R1.lstAt h3
  rw [g3] at q3
  cases q3
  refine hf Hk1 H1 a vs ws ds es ds' ret Q R1.ex q4 q5 (o1.dats h2) h4 fun vs' v d1 d2 => ?_
  exact k v Hk1 _ (R1.change (c := .lst ds') q1 q2 g3 ⟨vs', upd_same, d1⟩) s1 d2
theorem mut0_run {i : Nat} {r : V → List V → Hp → VK → Prop} {f : List PyData → List PyData → Option (List PyData × PyData)} (hf : MutD K r f) {Q : VK} (h : tE K (mMut i f mNil) σ H Q) : tBM0 K "list" r (tVar i) σ H Q := by
  obtain ⟨x, e, ty, q⟩ := mut_run hf h
  refine ⟨x, e, ty, ?_⟩
  obtain ⟨B, env, Hk, rs, env', R, hm, k⟩ := q
  cases hm
  exact k [] Hk H R (Same.refl _) .nil
theorem ve_mut {i : Nat} {x name : Str} {id : String} {r : V → List V → Hp → VK → Prop} {f : List PyData → List PyData → Option (List PyData × PyData)} {ms : MA} {e : Expr} {es : List Expr} {p apos cpos : Pos} (slot : PySem.Slot "list" name id) (hty : typeOf (.builtin id) = pure (.type "method_descriptor")) (hm : MtR X id r) (hf : MutD X.K r f) (ha : VA X (e :: es) ms)
    (hN : X.N[i]? = some x := by rfl) (hv : Vis X.env.scope x := by first | exact Or.inl rfl | exact Or.inr (Or.inl rfl) | exact Or.inr (Or.inr rfl)) (hd : (x == ("__debug__" : Str)) = false := by decide) (hcd : (x == ("__classdict__" : Str)) = false := by decide)
    (hbase : attributeBase (.Name x p) name X.env (eval (.Name x p) X.env) = eval (.Name x p) X.env := by rfl)
    (hfew : ((backTo cpos (starEach (e :: es) X.env)).all (fun x => !x.1) && (backToKw cpos (keywordEach [] X.env)).all (fun x => x.1.isSome)
      && decide ((e :: es).length + ([] : List Keyword).length + (if ([] : List Keyword).isEmpty then 0 else 1) < 30)) = true := by rfl)
    (hline : (apos.endLine == cpos.line) = true := by rfl) (hs : starEach (e :: es) X.env = (false, eval e X.env) :: starEach es X.env := by rfl) (hplain : (backTo cpos (starEach es X.env)).any (·.1) = false := by rfl) :
    VE X (.Call (.Attribute (.Name x p) name apos) (e :: es) [] cpos) (mMut i f ms) :=
  (pe_bm PySem.F.plainAttrs_list slot hty hm (pe_var hN hv hd hcd) ha hbase hfew hline hs hplain).imp fun _ _ _ => mut_run hf
theorem ve_mut0 {i : Nat} {x name : Str} {id : String} {r : V → List V → Hp → VK → Prop} {f : List PyData → List PyData → Option (List PyData × PyData)} {p apos cpos : Pos} (slot : PySem.Slot "list" name id) (hty : typeOf (.builtin id) = pure (.type "method_descriptor")) (hm : MtR X id r) (hf : MutD X.K r f)
    (hN : X.N[i]? = some x := by rfl) (hv : Vis X.env.scope x := by first | exact Or.inl rfl | exact Or.inr (Or.inl rfl) | exact Or.inr (Or.inr rfl)) (hd : (x == ("__debug__" : Str)) = false := by decide) (hcd : (x == ("__classdict__" : Str)) = false := by decide)
    (hbase : attributeBase (.Name x p) name X.env (eval (.Name x p) X.env) = eval (.Name x p) X.env := by rfl) (hline : (apos.endLine == cpos.line) = true := by rfl) :
    VE X (.Call (.Attribute (.Name x p) name apos) [] [] cpos) (mMut i f mNil) :=
  (pe_bm0 PySem.F.plainAttrs_list slot hty hm (pe_var hN hv hd hcd) hbase hline).imp fun _ _ _ => mut0_run hf
def fApp : List PyData → List PyData → Option (List PyData × PyData)
  | ds, [d] => if ds.length < 100000 then some (ds ++ [d], .none) else none
  | _, _ => none
theorem md_append : MutD K rAppend fApp := by
  intro Hk H l vs ws ds es ds' ret Q e hl hd he h q
  unfold fApp at h
  split at h
  · split at h
    · rename_i hz
      cases h
      cases he with
      | cons h1 h2 =>
        cases h2
        exact ⟨l, vs, _, rfl, rfl, hl, by rw [hd.len]; exact Nat.lt_of_lt_of_le hz (by decide), q _ _ (hd.append (.cons h1 .nil)) .non⟩
    · cases h
  · cases h
def fExt : List PyData → List PyData → Option (List PyData × PyData)
  | ds, [.list es] => if ds.length + es.length ≤ 100000 then some (ds ++ es, .none) else none
  | _, _ => none
theorem md_extend : MutD K rExtend fExt := by
  intro Hk H l vs ws ds es ds' ret Q e hl hd he h q
  unfold fExt at h
  split at h
  · split at h
    · rename_i hz
      cases h
      cases he with
      | cons h1 h2 =>
        cases h2
        cases h1 with
        | lst g1 g2 => exact ⟨l, _, vs, _, rfl, rfl, hl, e _ _ g1, by rw [hd.len, g2.len]; exact sz_of hz, q _ _ (hd.append g2) .non⟩
    · cases h
  · cases h
def fRev : List PyData → List PyData → Option (List PyData × PyData)
  | ds, [] => some (ds.reverse, .none)
  | _, _ => none
theorem md_reverse : MutD K rReverse fRev := by
  intro Hk H l vs ws ds es ds' ret Q e hl hd he h q
  unfold fRev at h
  split at h
  · cases h
    cases he
    exact ⟨l, vs, rfl, rfl, hl, q _ _ hd.rev .non⟩
  · cases h
def fPopAt : List PyData → List PyData → Option (List PyData × PyData)
  | ds, [.int i] => if 0 ≤ i ∧ i < 2 ^ 62 then (ds[i.toNat]?).map fun d => (ds.eraseIdx i.toNat, d) else none
  | _, _ => none
theorem md_popAt : MutD K rPopAt fPopAt := by
  intro Hk H l vs ws ds es ds' ret Q e hl hd he h q
  unfold fPopAt at h
  split at h
  · split at h
    · rename_i i hz
      obtain ⟨d, h1, h2⟩ := Option.map_eq_some_iff.mp h
      cases h2
      cases he with
      | cons g1 g2 =>
        cases g2
        cases g1
        obtain ⟨v, q1, q2⟩ := hd.get _ _ h1
        have hlt : i.toNat < vs.length := (List.getElem?_eq_some_iff.mp q1).1
        refine ⟨l, vs, i, i.toNat, v, rfl, rfl, hl, by omega, by omega, ?_, q1, q _ _ (hd.erase _) q2⟩
        have e1 : ¬ i < 0 := by omega
        have e2 : (decide (0 ≤ i) && decide (i < (vs.length : Int))) = true := by
          rw [decide_eq_true hz.1, decide_eq_true (by omega)]
          rfl
        simp only [seqIndex?, if_neg e1, e2, if_true]
    · cases h
  · cases h
/-! ### targets that are items -/
def mgSub (i : Nat) (mi : ME) : MG := fun d env => (lstAt env i).bind fun _ => (mi env).bind fun p => match p.1 with
  | .dat (.int k) => (lstAt p.2 i).bind fun q => (ixN q.2.length k).map fun j => p.2.set i (q.1.put (.lst (q.2.set j d)))
  | _ => none
theorem gsub_run {i : Nat} {mi : ME} {v : V} {Q : St → Hp → Prop} (h : tG K [] (mgSub i mi) v σ H Q) : gSub (tVar i) (tE K mi) rSetL v σ H Q := by
  obtain ⟨B, env, Hk, d, env', R, hd, hm, k⟩ := h
  obtain ⟨⟨s0, ds0⟩, h0, hm⟩ := Option.bind_eq_some_iff.mp hm
  obtain ⟨⟨r, e1⟩, h1, hm⟩ := Option.bind_eq_some_iff.mp hm
  obtain ⟨a, vs0, g1, g2, g3, g4, g5⟩ := R.lstAt h0
  refine ⟨_, g3, B, env, Hk, r, e1, R, h1, fun w Hk1 H1 R1 s1 o1 => ?_⟩
  cases r with
  | new c => cases hm
  | slt i => cases hm
  | dat dd =>
    cases dd with
    | int ki =>
      obtain ⟨⟨s, ds⟩, h2, hm⟩ := Option.bind_eq_some_iff.mp hm
      obtain ⟨j, h3, hm⟩ := Option.map_eq_some_iff.mp hm
      cases hm
      cases o1
      obtain ⟨a', vs, q1, q2, q3, q4, q5⟩ := R1.lstAt h2
      rw [g3] at q3
      cases q3
      refine ⟨a, vs, ki, j, rfl, rfl, q4, by rw [q5.len]; exact h3, ?_⟩
      exact k σ Hk1 _ (R1.change (c := .lst ds) q1 q2 g3 ⟨_, upd_same, q5.set (dv_mono s1 _ _ hd) j⟩) s1 (fun _ _ => rfl) rfl
    | _ => cases hm
theorem vg_sub {i : Nat} {x : Str} {mi : ME} {ix : Expr} {p pos : Pos} (hi : VE X ix mi) (hN : X.N[i]? = some x := by rfl) (hv : Vis X.env.scope x := by first | exact Or.inl rfl | exact Or.inr (Or.inl rfl) | exact Or.inr (Or.inr rfl)) (hd : (x == ("__debug__" : Str)) = false := by decide) (hcd : (x == ("__classdict__" : Str)) = false := by decide)
    (ha : ∀ v, assign (.Subscript (.Name x p) ix pos) X.env v = (do
      let ov ← holding [v] (eval (.Name x p) X.env)
      let iv ← holding [v, ov] (eval ix X.env)
      standAt pos
      holding [v, ov, iv] (setItem ov iv v)
      release [v, ov, iv] []) := by intro _; rfl) : VG X (.Subscript (.Name x p) ix pos) [] (mgSub i mi) := (pg_sub (pe_var hN hv hd hcd) hi set_list ha).imp fun _ _ _ _ => gsub_run
/-- target = value -/
def mAsg (m : ME) (g : MG) : MS := fun env => (mFrz m env).bind fun p => match p.1 with
  | .dat d => (g d p.2).map fun e => (.nx, e)
  | _ => none
theorem asg_run {m : ME} {g : MG} {js : List Nat} {D : Ends} (h : tS K (mAsg m g) D σ H) : tAsg (tE K (mFrz m)) (tG K js g) D σ H := by
  obtain ⟨B, env, Hk, f, env', R, hm, k⟩ := h
  obtain ⟨⟨r, e1⟩, h1, hm⟩ := Option.bind_eq_some_iff.mp hm
  refine ⟨B, env, Hk, r, e1, R, h1, fun v Hk1 H1 R1 s1 o1 => ?_⟩
  cases r with
  | new c => cases hm
  | slt i => cases hm
  | dat d =>
    obtain ⟨e2, h2, hm⟩ := Option.map_eq_some_iff.mp hm
    cases hm
    exact ⟨B, e1, Hk1, d, _, R1, o1, h2, fun σ' Hk2 H2 R2 s2 _ _ => k σ' Hk2 H2 R2 (s1.trans s2)⟩
theorem vs_asg {tg e : Expr} {m : ME} {g : MG} {js : List Nat} {pos : Pos} (he : VE X e m) (hg : VG X tg js g) (hs : swapsWithSole [tg] e pos.line X.env = pure false := by rfl) (hw : swappedStores [tg] e X.env = pure none := by rfl)
    (h1 : (assignEach [tg] X.env).map (·.2) = [assign tg X.env] := by rfl) : VS X (.Assign [tg] e pos) (mAsg m g) := (ps_asg (ve_frz he) hg hs hw h1).imp fun _ _ _ => asg_run
/-! ### name op= e, whole numbers -/
def mAugI (i : Nat) (f : Int → Int → Int) (m : ME) : MS := fun env => match env[i]? with
  | some (.val (.int a)) => (m env).bind fun p => match p.1 with
    | .dat (.int b) => some (.nx, p.2.set i (.val (.int (f a b))))
    | _ => none
  | _ => none
theorem augI_run {i : Nat} {f : Int → Int → Int} {m : ME} {D : Ends} (h : tS K (mAugI i f m) D σ H) : tAug i (tE K m) (ipI f) D σ H := by
  obtain ⟨B, env, Hk, fl, env', R, hm, k⟩ := h
  unfold mAugI at hm
  split at hm
  · rename_i a ha
    obtain ⟨⟨r, e1⟩, h1, hm⟩ := Option.bind_eq_some_iff.mp hm
    obtain ⟨o, g1, v, rfl, g2⟩ := R.slot i _ ha
    cases g2
    refine ⟨_, g1, B, env, Hk, r, e1, R, h1, fun w Hk1 H1 R1 s1 o1 => ?_⟩
    cases r with
    | new c => cases hm
    | slt i => cases hm
    | dat d =>
      cases d with
      | int b =>
        cases hm
        cases o1
        exact ⟨a, b, rfl, rfl, k _ Hk1 H1 (R1.setVal (.int _)) s1⟩
      | _ => cases hm
  · cases hm
theorem vs_augI {i : Nat} {f : Int → Int → Int} {x : Str} {e : Expr} {m : ME} {op : Operator} {pos' pos : Pos} (ho : PIp X op (ipI f)) (hN : X.N.Nodup) (he : VE X e m) (hi : X.N[i]? = some x := by rfl) (hx : Loc X.env.scope x := by first | exact Or.inl rfl | exact Or.inr rfl) (hf : X.fn x = true ∨ X.env.scope.names.lookup x = some .local := by first | exact .inl rfl | exact .inr rfl | assumption) :
    VS X (.AugAssign (.Name x pos') op e pos) (mAugI i f m) := (ps_aug hN hi hx he ho hf).imp fun _ _ _ => augI_run
/-! ### isinstance -/
def tyN : PyData → String
  | .none => "NoneType"
  | .bool _ => "bool"
  | .int _ => "int"
  | .str _ => "str"
  | .list _ => "list"
  | .tuple _ => "tuple"
  | .dict _ => "dict"
theorem tyN_x {v : V} {d : PyData} (h : Dv K H v d) : TyX K H v (.type (tyN d)) := by
  cases h with
  | non => exact .base .non
  | bl b => exact .base (.bl b)
  | int b => exact .base (.int b)
  | str b => exact .base (.str b)
  | lst h1 h2 => exact .base (.lst h1)
  | tup h1 h2 =>
    rcases h1 with (h1 | ⟨o, h1⟩) | ⟨o, its, n, h1, h3, _⟩
    · exact .base (.tup h1)
    · exact .fTuple h1
    · exact .kTuple h1 h3
def mIsi (T : String) (m : ME) : ME := fun env => (m env).bind fun p => (rdv p.2 (stab p.1)).bind fun d => (kitB (tyN d) T).map fun b => (.dat (.bool b), p.2)
theorem isi_run {T : String} {m : ME} {Q : VK} (h : tE K (mIsi T m) σ H Q) : tCB (rIsi K) (tCons (tE K m) (tCons (tC (.ty T)) tNil)) σ H Q := by
  obtain ⟨B, env, Hk, res, env', R, hm, k⟩ := h
  obtain ⟨⟨r, e1⟩, h1, hm⟩ := Option.bind_eq_some_iff.mp hm
  obtain ⟨d, h2, hm⟩ := Option.bind_eq_some_iff.mp hm
  obtain ⟨b, h3, hm⟩ := Option.map_eq_some_iff.mp hm
  cases hm
  refine ⟨B, env, Hk, r, e1, R, h1, fun v Hk1 H1 R1 s1 o1 => ?_⟩
  obtain ⟨Hk1', R1', s1', o1'⟩ := R1.stab o1
  have vw := (R1'.view o1' h2).dv R1'.ex
  exact ⟨v, .ty T, _, _, b, rfl, .ty T, tyN_x vw, kit_ty h3, k _ Hk1' H1 R1' (s1.trans s1') (.bl b)⟩
theorem ve_isi {T : Str} {id : String} {e : Expr} {m : ME} {p p2 pos : Pos} (he : VE X e m) (hm : X.mg "isinstance" = none) (hm2 : X.mg T = none) (hv : bootBuiltins T = some (.type id)) (hg : Gl X "isinstance" := by rfl) (hg2 : Gl X T := by rfl) (hn : T ≠ "__name__" := by decide) (hdb : (T == ("__debug__" : Str)) = false := by decide) (hb : bootBuiltins "isinstance" = some (.builtin "isinstance") := by decide +kernel)
    (hs : starEach (e :: [.Name T p2]) X.env = (false, eval e X.env) :: starEach [.Name T p2] X.env := by rfl) (hs2 : starEach [.Name T p2] X.env = (false, eval (.Name T p2) X.env) :: starEach [] X.env := by rfl) (hpl : (backTo pos (starEach [.Name T p2] X.env)).any (·.1) = false := by rfl) :
    VE X (.Call (.Name "isinstance" p) [e, .Name T p2] [] pos) (mIsi id m) :=
  (pe_callB call_isi hg hm hb (pa_cons he (pa_cons (pe_bltn (v := .ty id) hg2 hm2 hv rfl hn hdb) pa_nil hs2) hs) (by decide) (by decide) hs hpl).imp fun _ _ _ => isi_run
/-- isinstance(x, (S, T)) -/
def mIsi2 (S T : String) (m : ME) : ME := fun env => (m env).bind fun p => (rdv p.2 (stab p.1)).bind fun d => (kitB (tyN d) S).bind fun b => (kitB (tyN d) T).map fun c => (.dat (.bool (b || c)), p.2)
theorem isi2_run {S T : String} {m : ME} {Q : VK} (h : tE K (mIsi2 S T m) σ H Q) : tCB (rIsiT K) (tCons (tE K m) (tCons (tTup (tCons (tC (.ty S)) (tCons (tC (.ty T)) tNil))) tNil)) σ H Q := by
  obtain ⟨B, env, Hk, res, env', R, hm, k⟩ := h
  obtain ⟨⟨r, e1⟩, h1, hm⟩ := Option.bind_eq_some_iff.mp hm
  obtain ⟨d, h2, hm⟩ := Option.bind_eq_some_iff.mp hm
  obtain ⟨b, h3, hm⟩ := Option.bind_eq_some_iff.mp hm
  obtain ⟨c, h4, hm⟩ := Option.map_eq_some_iff.mp hm
  cases hm
  refine ⟨B, env, Hk, r, e1, R, h1, fun v Hk1 H1 R1 s1 o1 => ?_⟩
  obtain ⟨Hk1', R1', s1', o1'⟩ := R1.stab o1
  have vw := (R1'.view o1' h2).dv R1'.ex
  refine ⟨by show 2 ≤ sizeLine; decide, fun q hq => ?_⟩
  have s2 : Same H1 (upd H1 q (.tup [.ty S, .ty T])) := same_upd hq
  refine ⟨v, q, _, _, [.type S, .type T], b || c, rfl, upd_same, .cons (.ty S) (.cons (.ty T) .nil), tyN_x (dv_mono s2 _ _ vw), ?_, k _ Hk1' _ (R1'.laid hq) (s1.trans s1') (.bl _)⟩
  refine kitAny_cons (kit_ty h3) (fun hb => kitAny_cons (kit_ty h4) (fun hc => ?_) fun hc => by rw [hc, Bool.or_true]) fun hb => by rw [hb, Bool.true_or]
  rw [hb, hc]
  exact kitAny_nil
theorem ve_isi2 {S T : Str} {id1 id2 : String} {e : Expr} {m : ME} {p p1 p2 p3 pos : Pos} {kk} (he : VE X e m) (hm : X.mg "isinstance" = none) (hm1 : X.mg S = none) (hv1 : bootBuiltins S = some (.type id1)) (hm2 : X.mg T = none) (hv2 : bootBuiltins T = some (.type id2)) (hg : Gl X "isinstance" := by rfl) (hg1 : Gl X S := by rfl) (hg2 : Gl X T := by rfl) (hn1 : S ≠ "__name__" := by decide) (hdb1 : (S == ("__debug__" : Str)) = false := by decide) (hn2 : T ≠ "__name__" := by decide) (hdb2 : (T == ("__debug__" : Str)) = false := by decide) (hb : bootBuiltins "isinstance" = some (.builtin "isinstance") := by decide +kernel)
    (hs : starEach (e :: [.Tuple [.Name S p1, .Name T p2] kk p3]) X.env = (false, eval e X.env) :: starEach [.Tuple [.Name S p1, .Name T p2] kk p3] X.env := by rfl) (hs2 : starEach [.Tuple [.Name S p1, .Name T p2] kk p3] X.env = (false, eval (.Tuple [.Name S p1, .Name T p2] kk p3) X.env) :: starEach [] X.env := by rfl)
    (hs3 : starEach [.Name S p1, .Name T p2] X.env = (false, eval (.Name S p1) X.env) :: starEach [.Name T p2] X.env := by rfl) (hs4 : starEach [.Name T p2] X.env = (false, eval (.Name T p2) X.env) :: starEach [] X.env := by rfl) (hpl : (backTo pos (starEach [.Tuple [.Name S p1, .Name T p2] kk p3] X.env)).any (·.1) = false := by rfl) :
    VE X (.Call (.Name "isinstance" p) [e, .Tuple [.Name S p1, .Name T p2] kk p3] [] pos) (mIsi2 id1 id2 m) :=
  (pe_callB call_isiT hg hm hb (pa_cons he (pa_cons (pe_tup (pa_cons (pe_bltn (v := .ty id1) hg1 hm1 hv1 rfl hn1 hdb1) (pa_cons (pe_bltn (v := .ty id2) hg2 hm2 hv2 rfl hn2 hdb2) pa_nil hs4) hs3)) pa_nil hs2) hs) (by decide) (by decide) hs hpl).imp fun _ _ _ => isi2_run
end
end Cm
namespace Cm
open PySem L2
section
variable {X : Cx} {K : PySem.W.Frag} {B : Fb} {env : Sl} {σ : St} {Hk H : Hp}
/-! ### a range with steps -/
theorem iter_rangeC {lo c : Int} {n : Nat} {Hk : Hp} : IterOk K Hk (Itc lo c n) ((List.range n).map fun i => .int (lo + (i : Nat) * c)) := by
  intro Hk2 H2 _ _ i
  refine ⟨fun d hd => ?_, fun hl => ?_⟩
  · rw [List.getElem?_map] at hd
    obtain ⟨j, h1, rfl⟩ := Option.map_eq_some_iff.mp hd
    obtain ⟨h2, h3⟩ := List.getElem?_eq_some_iff.mp h1
    rw [List.getElem_range] at h3
    subst h3
    rw [List.length_range] at h2
    refine ⟨h2, fun x H' y => ?_⟩
    obtain ⟨rfl, rfl⟩ := y
    exact .inl ⟨rfl, .int _⟩
  · rw [List.length_map, List.length_range] at hl
    exact hl
def mRange3 (ms : MA) : MI := fun env => (ms env).bind fun p => (rdAll p.2 p.1).bind fun ds => match ds with
  | [.int i, .int j, .int c] => if (c ≠ 0 ∧ c.natAbs < 1073741824) ∧ Builtin.Range.small i j c = true then some ((List.range (Builtin.Range.rangeSize i j c).toNat).map fun k => .int (i + (k : Nat) * c), p.2) else none
  | _ => none
theorem rangeSize_nn (i j c : Int) : 0 ≤ Builtin.Range.rangeSize i j c := by
  unfold Builtin.Range.rangeSize
  split
  · split
    · have : 0 ≤ (j - i - 1) / c := Int.ediv_nonneg (by omega) (by omega)
      omega
    · omega
  · split
    · have : 0 ≤ (i - j - 1) / (-c) := Int.ediv_nonneg (by omega) (by omega)
      omega
    · omega
theorem range3_run {ms : MA} {σ : St} {H : Hp} {R : It → Hp → Prop} (h : tI K (mRange3 ms) σ H R) : iRng3 (tA K ms) σ H R := by
  obtain ⟨B, env, Hk, ds, env', R0, hm, k⟩ := h
  obtain ⟨⟨rs, e1⟩, h1, hm⟩ := Option.bind_eq_some_iff.mp hm
  obtain ⟨es, h2, hm⟩ := Option.bind_eq_some_iff.mp hm
  refine ⟨B, env, Hk, rs, e1, R0, h1, fun vs Hk1 H1 R1 s1 o1 => ?_⟩
  have hv := R1.views o1 h2
  split at hm
  · rename_i i j c
    split at hm
    · rename_i hz
      cases hm
      cases hv with
      | cons v1 v2 =>
        cases v2 with
        | cons v2 v3 =>
          cases v3 with
          | cons v3 v4 =>
            cases v4
            rw [v1.int, v2.int, v3.int]
            exact ⟨i, j, c, (Builtin.Range.rangeSize i j c).toNat, rfl, ⟨hz.1.1, hz.1.2, hz.2, (Int.toNat_of_nonneg (rangeSize_nn i j c)).symm⟩, k _ Hk1 H1 R1 s1 iter_rangeC⟩
    · cases hm
  · cases hm
theorem vi_range3 {tg a b c : Expr} {ms : MA} {p pos : Pos} (hm : X.mg "range" = none) (ha : VA X [a, b, c] ms) (hg : Gl X "range" := by rfl) (hs : starEach [a, b, c] X.env = (false, eval a X.env) :: starEach [b, c] X.env := by rfl) (hpl : (backTo pos (starEach [b, c] X.env)).any (·.1) = false := by rfl) : VI X tg (.Call (.Name "range" p) [a, b, c] [] pos) (mRange3 ms) := (pi_range3 hg hm ha hs hpl).imp fun _ _ _ => range3_run
/-! ### methods that change nothing -/
theorem ve_bm {T : String} {name : Str} {id : String} {r : V → List V → Hp → VK → Prop} {g : PyData → List PyData → Option Res} {o e : Expr} {es : List Expr} {m : ME} {ms : MA} {apos cpos : Pos} (pa : PySem.PlainAttrs T) (slot : PySem.Slot T name id) (hty : typeOf (.builtin id) = pure (.type "method_descriptor")) (hm : MtR X id r) (hg : MtD X.K r g) (ho : VE X o m) (ha : VA X (e :: es) ms)
    (hbase : attributeBase o name X.env (eval o X.env) = eval o X.env := by rfl)
    (hfew : ((backTo cpos (starEach (e :: es) X.env)).all (fun x => !x.1) && (backToKw cpos (keywordEach [] X.env)).all (fun x => x.1.isSome)
      && decide ((e :: es).length + ([] : List Keyword).length + (if ([] : List Keyword).isEmpty then 0 else 1) < 30)) = true := by rfl)
    (hline : (apos.endLine == cpos.line) = true := by rfl) (hs : starEach (e :: es) X.env = (false, eval e X.env) :: starEach es X.env := by rfl) (hplain : (backTo cpos (starEach es X.env)).any (·.1) = false := by rfl) :
    VE X (.Call (.Attribute o name apos) (e :: es) [] cpos) (mBM T g m ms) :=
  (pe_bm pa slot hty hm ho ha hbase hfew hline hs hplain).imp fun _ _ _ => bm_run hg
def gCount : PyData → List PyData → Option Res
  | .list ds, [.int k] => (intsD ds).map fun ns => .dat (.int (ns.count k : Nat))
  | _, _ => none
theorem mtd_count : MtD K (rCntI K) gCount := by
  intro Hk H x vs d ds res Q e hx hv h q
  unfold gCount at h
  split at h
  · obtain ⟨ns, h1, rfl⟩ := Option.map_eq_some_iff.mp h
    cases hv with
    | cons v1 v2 =>
      cases v2
      obtain ⟨a, ws, rfl, g1, g2⟩ := hx.list e
      rw [ints_dv g2 h1] at g1
      exact ⟨a, ns, _, rfl, by rw [v1.int], SqL.of g1, q _ _ (.inl ⟨rfl, .int _⟩)⟩
  · cases h
/-! ### a def of one parameter, called with a list just made, which it may change -/
def mCallN (fm : FM) (m : ME) : ME := fun env => (m env).bind fun p => match p.1 with
  | .new c => (fm [.io 0 c]).map fun q => (q.1, p.2)
  | _ => none
theorem callN_run {fm : FM} {m : ME} {Q : VK} (h : tE K (mCallN fm m) σ H Q) : tCall (spF K fm) [] E0 (tCons (tE K m) tNil) σ H Q := by
  obtain ⟨B, env, Hk, res, env', R, hm, k⟩ := h
  obtain ⟨⟨r0, e1⟩, h1, hm⟩ := Option.bind_eq_some_iff.mp hm
  cases r0 with
  | dat d => cases hm
  | slt d => cases hm
  | new c =>
    obtain ⟨⟨r, outs⟩, h3, hm⟩ := Option.map_eq_some_iff.mp hm
    cases hm
    refine ⟨B, env, Hk, .new c, e1, R, h1, fun v Hk1 H1 R1 s1 o1 => ?_⟩
    obtain ⟨a, rfl, q1, q2, q3, q4⟩ := o1
    show spF K fm [V.ref a] H1 Q E0
    refine ⟨Hk1, [.io 0 c], r, outs, R1.ex, ⟨rfl, fun i s v hi hv => ?_, fun i l c' hi => ?_, fun i j l l' c1 c2 b hi hj _ _ => ?_⟩, h3, fun v Hk2 H2 p => ?_⟩
    · match i, hi, hv with
      | 0, hi, hv =>
        cases hi
        cases hv
        exact ⟨a, rfl, q1, q3⟩
    · match i, hi with
      | 0, hi =>
        cases hi
        rfl
    · match i, j, hi, hj with
      | 0, 0, hi, hj => rfl
    obtain ⟨c', g1, g2, g3⟩ := p.io 0 a rfl
    obtain ⟨o, ho⟩ := q3.there
    obtain ⟨o', ho'⟩ := g3.there
    have hk : ∀ b, b ≠ a → ∀ i, ioA [Slot.io 0 c] [V.ref a] i ≠ some b := fun b hb i z => by
      match i, z with
      | 0, z =>
        cases z
        exact hb rfl
    have eqH : H2 = upd (upd H2 a o) a o' := by
      funext b
      by_cases e : b = a
      · rw [e, upd_same, ho']
      · rw [upd_ne e, upd_ne e]
    have sH : Same H1 (upd H2 a o) := fun b x e => by
      by_cases z : b = a
      · rw [z] at e ⊢
        rw [ho] at e
        rw [upd_same]
        exact e
      · rw [upd_ne z]
        exact p.kp b x e (hk b z)
    have R2 : Rel K B e1 σ Hk2 (upd H2 a o) := R1.grow p.kn (fun b x e => by
      have z : b ≠ a := fun z => by rw [z, g2] at e; cases e
      rw [upd_ne z]
      exact p.ex b x e) sH p.fr
    have R3 := R2.other (u := o') g2 q2 q4
    rw [← eqH] at R3
    refine k v Hk2 H2 R3 (s1.trans p.kn) ?_
    have hres := p.res
    cases r with
    | dat d => exact hres
    | slt i => cases hres
    | new c2 =>
      obtain ⟨b, rfl, w1, w2, w3⟩ := hres
      exact ⟨b, rfl, w1, R1.fresh0 w2, w3, fun j s hj hm => R1.mutNe w2 hj hm⟩
theorem ve_callN {k : Nat} {f : Addr} {fd : FuncData} {ps : List Str} {fm : FM} {x : Str} {p pos : Pos} {e : Expr} {m : ME} (F : FnOk X.prog X.w X.K X.mg X.base CX0 k f fd ps (spF X.K fm)) (hr : Room k X.A) (hm : X.mg x = some (.ref f)) (hk : PySem.W.keepIn X.K (.ref f) = true) (hb : Binds X.K fd ps [])
    (ha : VE X e m) (hg : Gl X x := by rfl) (hdb : (x == ("__debug__" : Str)) = false := by decide) (he : starEach [e] X.env = (false, eval e X.env) :: starEach [] X.env := by rfl) (hpl : (backTo pos (starEach [] X.env)).any (·.1) = false := by rfl) :
    VE X (.Call (.Name x p) [e] [] pos) (mCallN fm m) := (pe_call F hr hg hm hk hb .nil pass0 (pa_cons ha pa_nil he) hdb he hpl).imp fun _ _ _ => callN_run
/-! ### a def that calls itself -/
theorem ok_no {P : Program} {w : World} {mg : Str → Option Value} {base : Heap} {k : Nat} {f : Addr} {fd : FuncData} {ps : List Str} : FnOk P w K mg base CX0 k f fd ps (spF K fun _ => none) :=
  ⟨fun vs H Q E ⟨_, _, _, _, _, _, z, _⟩ => (nomatch z), fun A outer s H args us vs Q E _ _ _ _ ⟨_, _, _, _, _, _, z, _⟩ => nomatch z⟩
end
end Cm
namespace Cm
open PySem L2
section
variable {X : Cx} {K : PySem.W.Frag} {B : Fb} {env : Sl} {σ : St} {Hk H : Hp}
/-! ### sorted, of whole numbers -/
def isort (l : List Int) : List Int := l.mergeSort fun a b => decide (a ≤ b)
theorem isort_perm (l : List Int) : (isort l).Perm l := List.mergeSort_perm l _
theorem isort_up (l : List Int) : (isort l).Pairwise (· ≤ ·) := by
  have h := List.pairwise_mergeSort (le := fun (a b : Int) => decide (a ≤ b)) (fun a b c h1 h2 => by
    rw [decide_eq_true_eq] at *
    omega) (fun a b => by
    rw [Bool.or_eq_true, decide_eq_true_eq, decide_eq_true_eq]
    omega) l
  exact h.imp fun h => of_decide_eq_true h
theorem sorted_uniq : ∀ {l l' : List Int}, l.Perm l' → l.Pairwise (· ≤ ·) → l'.Pairwise (· ≤ ·) → l = l'
  | [], l', h, _, _ => (List.nil_perm.mp h).symm
  | x :: l, [], h, _, _ => absurd h.length_eq (by simp)
  | x :: l, y :: l', h, h1, h2 => by
    rw [List.pairwise_cons] at h1 h2
    have e : x = y := by
      have a1 : x ∈ y :: l' := h.mem_iff.mp List.mem_cons_self
      have a2 : y ∈ x :: l := h.mem_iff.mpr List.mem_cons_self
      rcases List.mem_cons.mp a1 with a1 | a1
      · exact a1
      · rcases List.mem_cons.mp a2 with a2 | a2
        · exact a2.symm
        · have b1 := h1.1 y a2
          have b2 := h2.1 x a1
          omega
    subst e
    rw [sorted_uniq (List.Perm.cons_inv h) h1.2 h2.2]
def gSorted : List PyData → Option Res
  | [.list ds] => (intsD ds).map fun ns => .new (.lst ((isort ns).map .int))
  | _ => none
theorem cd_sorted : CallD K (rSortedI K) gSorted := by
  intro Hk H vs ds res Q e hv h q
  unfold gSorted at h
  split at h
  · obtain ⟨ns, h1, rfl⟩ := Option.map_eq_some_iff.mp h
    cases hv with
    | cons v1 v2 =>
      cases v2
      obtain ⟨a, ws, rfl, g1, g2⟩ := v1.list e
      rw [ints_dv g2 h1] at g1
      refine ⟨a, ns, rfl, SqL.of g1, fun ns' p hp hs hn => q _ _ ⟨p, ns'.map V.int, rfl, hn, rfl, ?_⟩⟩
      rw [sorted_uniq (hp.trans (isort_perm ns).symm) hs (isort_up ns)]
      exact dv_ints _
  · cases h
/-! ### xs[::-1] -/
def mRevL (m : ME) : ME := fun env => (m env).bind fun p => (rdv p.2 (stab p.1)).bind fun d => match d with
  | .list ds => some (.new (.lst ds.reverse), p.2)
  | _ => none
theorem revL_run {m : ME} {Q : VK} (h : tE K (mRevL m) σ H Q) : tRevL K (tE K m) σ H Q := by
  obtain ⟨B, env, Hk, res, env', R, hm, k⟩ := h
  obtain ⟨⟨x, e0⟩, h0, hm⟩ := Option.bind_eq_some_iff.mp hm
  obtain ⟨d, h3, hm⟩ := Option.bind_eq_some_iff.mp hm
  cases d with
  | list ds =>
    cases hm
    refine ⟨B, env, Hk, x, e0, R, h0, fun v Hk1 H1 R1 s1 o1 => ?_⟩
    obtain ⟨Hk1', R1', s1', o1'⟩ := R1.stab o1
    obtain ⟨a, vs, rfl, g1, g2⟩ := (R1'.view o1' h3).list R1'.ex
    refine ⟨a, vs, rfl, SqL.of g1, fun p hp => ?_⟩
    obtain ⟨Hk3, R3, s3, o3⟩ := R1'.out (r := .new (.lst ds.reverse)) (v := .ref p) ⟨p, vs.reverse, rfl, hp, rfl, g2.rev⟩
    exact k _ Hk3 _ R3 ((s1.trans s1').trans s3) o3
  | none => cases hm
  | bool b => cases hm
  | int b => cases hm
  | str b => cases hm
  | tuple b => cases hm
  | dict b => cases hm
theorem ve_rev {e : Expr} {m : ME} {k : Nat} {p1 p2 p3 pos : Pos} (he : VE X e m) : VE X (.Subscript e (.Slice none none (some (.UnaryOp .USub (.Constant (.int 1) k p1) p2)) p3) pos) (mRevL m) := (pe_revL he).imp fun _ _ _ => revL_run
/-! ### the least and the greatest of a list -/
def leastI : List Int → Option Int
  | [] => none
  | x :: xs => some (xs.foldl (fun a b => if b < a then b else a) x)
theorem least_fold : ∀ (xs : List Int) (x : Int), (xs.foldl (fun a b => if b < a then b else a) x) ∈ x :: xs ∧ ∀ y ∈ x :: xs, (xs.foldl (fun a b => if b < a then b else a) x) ≤ y
  | [], x => ⟨List.mem_cons_self, fun y hy => by rw [List.mem_singleton] at hy; rw [hy]; exact Int.le_refl _⟩
  | b :: xs, x => by
    rw [List.foldl_cons]
    obtain ⟨h1, h2⟩ := least_fold xs (if b < x then b else x)
    have hx : (if b < x then b else x) ≤ x ∧ (if b < x then b else x) ≤ b := by split <;> omega
    have h3 := h2 _ List.mem_cons_self
    refine ⟨?_, fun y hy => ?_⟩
    · rcases List.mem_cons.mp h1 with h1 | h1
      · rw [h1]
        split
        · exact List.mem_cons_of_mem _ List.mem_cons_self
        · exact List.mem_cons_self
      · exact List.mem_cons_of_mem _ (List.mem_cons_of_mem _ h1)
    · rcases List.mem_cons.mp hy with rfl | hy
      · omega
      · rcases List.mem_cons.mp hy with rfl | hy
        · omega
        · exact h2 y (List.mem_cons_of_mem _ hy)
theorem least_spec {ns : List Int} {m : Int} (h : leastI ns = some m) : m ∈ ns ∧ ∀ y ∈ ns, m ≤ y := by
  cases ns with
  | nil => cases h
  | cons x xs =>
    cases h
    exact least_fold xs x
def gMinL : List PyData → Option Res
  | [.list ds] => (intsD ds).bind fun ns => (leastI ns).map fun m => .dat (.int m)
  | _ => none
theorem cd_minL : CallD K (rMin K) gMinL := by
  intro Hk H vs ds res Q e hv h q
  unfold gMinL at h
  split at h
  · obtain ⟨ns, h1, h⟩ := Option.bind_eq_some_iff.mp h
    obtain ⟨m, h2, rfl⟩ := Option.map_eq_some_iff.mp h
    obtain ⟨m1, m2⟩ := least_spec h2
    cases hv with
    | cons v1 v2 =>
      cases v2
      obtain ⟨a, ws, rfl, g1, g2⟩ := v1.list e
      rw [ints_dv g2 h1] at g1
      refine ⟨a, ns, rfl, SqL.of g1, List.length_pos_of_mem m1, fun m' hm hy => ?_⟩
      have e1 := hy m m1
      have e2 := m2 m' hm
      rw [show m' = m by omega]
      exact q _ _ (.inl ⟨rfl, .int _⟩)
  · cases h
/-! ### x in a list or tuple of flat things -/
def vOf : PyData → V
  | .none => .non
  | .bool b => .bl b
  | .int i => .int i
  | .str s => .str s
  | _ => .non
theorem flat_vOf {d : PyData} {v : V} (h : flatD d = true) (q : Dv K Hk v d) : v = vOf d ∧ flatV v = true := by
  cases q with
  | non => exact ⟨rfl, rfl⟩
  | bl b => exact ⟨rfl, rfl⟩
  | int i => exact ⟨rfl, rfl⟩
  | str s => exact ⟨rfl, rfl⟩
  | _ => cases h
theorem flat_vOfs : ∀ {ds : List PyData} {vs : List V}, ds.all flatD = true → DvAll K Hk vs ds → vs = ds.map vOf ∧ vs.all flatV = true
  | [], _, _, .nil => ⟨rfl, rfl⟩
  | d :: ds, _, h, .cons h1 h2 => by
    rw [List.all_cons, Bool.and_eq_true] at h
    obtain ⟨e1, e2⟩ := flat_vOf h.1 h1
    obtain ⟨e3, e4⟩ := flat_vOfs h.2 h2
    exact ⟨by rw [e1, e3]; rfl, by rw [List.all_cons, e2, e4]; rfl⟩
def inD (x : PyData) (ds : List PyData) : Bool := inV (vOf x) (ds.map vOf)
def gIn (neg : Bool) (x y : PyData) : Option Res := if flatD x = true then (match y with
  | .list ds => if ds.all flatD = true then some (.dat (.bool (neg ^^ inD x ds))) else none
  | .tuple ds => if ds.all flatD = true then some (.dat (.bool (neg ^^ inD x ds))) else none
  | _ => none) else none
theorem View.flat {d : PyData} {v : V} (h : flatD d = true) (q : View K Hk H v d) : v = vOf d ∧ flatV v = true := by
  rcases q with q | ⟨a, vs, ds, rfl, rfl, _, _⟩
  · exact flat_vOf h q
  · cases h
theorem od_in {neg : Bool} : OpD K (rIn K neg) (gIn neg) := by
  intro Hk H x y dx dy res Q e hx hy h q
  unfold gIn at h
  by_cases hf : flatD dx = true
  · rw [if_pos hf] at h
    obtain ⟨e1, e2⟩ := View.flat hf hx
    split at h
    · rename_i ds
      by_cases ha : ds.all flatD = true
      · rw [if_pos ha] at h
        cases h
        obtain ⟨a, ws, rfl, g1, g2⟩ := hy.list e
        obtain ⟨e3, e4⟩ := flat_vOfs ha g2
        refine ⟨a, ws, rfl, .inl (SqL.of g1), e2, e4, ?_⟩
        rw [e1, e3, show (if neg then !inV (vOf dx) (ds.map vOf) else inV (vOf dx) (ds.map vOf)) = (neg ^^ inD dx ds) by unfold inD; cases neg <;> simp]
        exact q _ _ (.inl ⟨rfl, .bl _⟩)
      · rw [if_neg ha] at h
        cases h
    · rename_i ds
      by_cases ha : ds.all flatD = true
      · rw [if_pos ha] at h
        cases h
        obtain ⟨a, ws, rfl, g1, g2⟩ := hy.tup e
        obtain ⟨e3, e4⟩ := flat_vOfs ha g2
        refine ⟨a, ws, rfl, .inr g1, e2, e4, ?_⟩
        rw [e1, e3, show (if neg then !inV (vOf dx) (ds.map vOf) else inV (vOf dx) (ds.map vOf)) = (neg ^^ inD dx ds) by unfold inD; cases neg <;> simp]
        exact q _ _ (.inl ⟨rfl, .bl _⟩)
      · rw [if_neg ha] at h
        cases h
    · cases h
  · rw [if_neg hf] at h
    cases h
theorem inD_ints (x : Int) (ns : List Int) : inD (.int x) (ns.map .int) = decide (x ∈ ns) := by
  unfold inD inV
  induction ns with
  | nil => rfl
  | cons n ns ih =>
    rw [List.map_cons, List.map_cons, List.any_cons, ih]
    show ((n == x) || decide (x ∈ ns)) = _
    by_cases h : n = x
    · simp [h]
    · have h2 : ¬ x = n := fun z => h z.symm
      simp [h, h2]
end
end Cm
namespace Cm
open PySem L2
def spLaw (K : PySem.W.Frag) : Sp := fun vs H Q _ => ∃ (a : Addr) (ns : List Int), vs = [.ref a] ∧ SqL K H a (ns.map V.int) ∧ ns.length ≤ 63 ∧ ∀ H', Q (.bl true) H'
theorem law_imp {K : PySem.W.Frag} {fm : FM} (h : ∀ ns : List Int, ns.length ≤ 63 → ∃ outs, fm [.scr ns] = some (.dat (.bool true), outs)) (vs : List V) (H : Hp) (Q : VK) (E : XK) (q : spLaw K vs H Q E) : spF K fm vs H Q E := by
  obtain ⟨a, ns, rfl, hS, hl, k⟩ := q
  obtain ⟨outs, e⟩ := h ns hl
  refine ⟨H, [.scr ns], _, outs, Same.refl _, ⟨rfl, fun i s v e1 e2 => ?_, fun i k c e1 => ?_, fun i j k l c c' a e1 => ?_⟩, e, fun v Hk' H' p => ?_⟩
  · cases i with
    | zero =>
      simp at e1 e2
      subst e1 e2
      exact ⟨a, rfl, hS⟩
    | succ i => simp at e1
  · cases i with
    | zero => simp at e1
    | succ i => simp at e1
  · cases i with
    | zero => simp at e1
    | succ i => simp at e1
  · have hr : Dv K Hk' v (.bool true) := p.res
    cases hr
    exact k H'
end Cm
/-! how value functions are run, step by step -/
namespace Cm
open PySem L2
section
variable {env e1 e2 e3 : Sl} {ma mb mc m : ME} {t u : MT} {x y r r1 r2 : Res} {dx dy dz d : PyData} {g g' : PyData → PyData → Option Res} {i j k : Nat}
theorem ev_nameV (h : env[i]? = some (.val d)) : mName i env = some (.dat d, env) := by simp only [mName, h]
theorem ev_nameO {c : Cell} (h : env[i]? = some (.own c)) : mName i env = some (.slt i, env) := by simp only [mName, h]
theorem ev_nameI {c : Cell} (h : env[i]? = some (.io k c)) : mName i env = some (.slt i, env) := by simp only [mName, h]
theorem ev_nameS {ns : List Int} (h : env[i]? = some (.scr ns)) : mName i env = some (.slt i, env) := by simp only [mName, h]
theorem ev_c : mC d env = some (.dat d, env) := rfl
theorem ev_op (h1 : ma env = some (x, e1)) (h2 : mb e1 = some (y, e2)) (h3 : rdv e2 (stab x) = some dx) (h4 : rdv e2 (stab y) = some dy) (h5 : g dx dy = some r) : mOp g ma mb env = some (r, e2) := by
  simp only [mOp, h1, h2, h3, h4, h5, Option.bind_some, Option.map_some]
theorem ev_un {g : PyData → Option Res} (h1 : ma env = some (x, e1)) (h3 : rdv e1 (stab x) = some dx) (h5 : g dx = some r) : mUn g ma env = some (r, e1) := by
  simp only [mUn, h1, h3, h5, Option.bind_some, Option.map_some]
theorem ev_frz {p : Res × Sl} {q : Res × Sl} (h1 : m env = some p) (h2 : frz p = some q) : mFrz m env = some q := by simp only [mFrz, h1, h2, Option.bind_some]
theorem ev_frzS {p : Res × Sl} {q : Res × Sl} (h1 : m env = some p) (h2 : frzS p = some q) : mFrzS m env = some q := by simp only [mFrzS, h1, h2, Option.bind_some]
theorem frz_dat : frz (.dat d, env) = some (.dat d, env) := rfl
theorem frz_new {ds : List PyData} : frz (.new (.lst ds), env) = some (.dat (.list ds), env) := rfl
theorem frz_own {ds : List PyData} (h : env[i]? = some (.own (.lst ds))) (h2 : env.set i (.val (.list ds)) = e1) : frz (.slt i, env) = some (.dat (.list ds), e1) := by simp only [frz, h, h2]
theorem frzS_dat : frzS (.dat d, env) = some (.dat d, env) := rfl
theorem frzS_new {c : Cell} : frzS (.new c, env) = some (.new c, env) := rfl
theorem ev_test {b : Bool} (h1 : m env = some (.dat (.bool b), e1)) : mTest m env = some (b, e1) := by simp only [mTest, h1, Option.bind_some]
def chainK (g' : PyData → PyData → Option Res) (mc : ME) (y : Res) : Bool → Sl → Option (Res × Sl)
  | true, e => (mc e).bind fun t => (rdv t.2 (stab y)).bind fun dy' => (rdv t.2 (stab t.1)).bind fun dz => (g' dy' dz).map fun r => (r, t.2)
  | false, e => some (.dat (.bool false), e)
theorem ev_chain {b : Bool} {q : Res × Sl} (h1 : ma env = some (x, e1)) (h2 : mb e1 = some (y, e2)) (h3 : rdv e2 (stab x) = some dx) (h4 : rdv e2 (stab y) = some dy) (h5 : g dx dy = some (.dat (.bool b))) (h6 : chainK g' mc y b e2 = some q) : mChain g g' ma mb mc env = some q := by
  cases b with
  | true =>
    simp only [mChain, h1, h2, h3, h4, h5, Option.bind_some]
    exact h6
  | false =>
    simp only [mChain, h1, h2, h3, h4, h5, Option.bind_some]
    exact h6
theorem chain_t {b : Bool} (hb : b = true) (h1 : mc e1 = some (r1, e2)) (h2 : rdv e2 (stab y) = some dy) (h3 : rdv e2 (stab r1) = some dz) (h4 : g' dy dz = some r) : chainK g' mc y b e1 = some (r, e2) := by
  subst hb
  simp only [chainK, h1, h2, h3, h4, Option.bind_some, Option.map_some]
theorem chain_f {b : Bool} (hb : b = false) : chainK g' mc y b e1 = some (.dat (.bool false), e1) := by
  subst hb
  rfl
def andK (u : MT) : Bool → Sl → Option (Bool × Sl)
  | true, e => u e
  | false, e => some (false, e)
def orK (u : MT) : Bool → Sl → Option (Bool × Sl)
  | false, e => u e
  | true, e => some (true, e)
theorem ev_and {b : Bool} {q : Bool × Sl} (h1 : t env = some (b, e1)) (h2 : andK u b e1 = some q) : mAnd t u env = some q := by
  simp only [mAnd, h1, Option.bind_some]
  cases b <;> exact h2
theorem and_t {b : Bool} {q : Bool × Sl} (hb : b = true) (h : u e1 = some q) : andK u b e1 = some q := by subst hb; exact h
theorem and_f {b : Bool} (hb : b = false) : andK u b e1 = some (false, e1) := by subst hb; rfl
theorem ev_or {b : Bool} {q : Bool × Sl} (h1 : t env = some (b, e1)) (h2 : orK u b e1 = some q) : mOr t u env = some q := by
  simp only [mOr, h1, Option.bind_some]
  cases b <;> exact h2
theorem or_t {b : Bool} (hb : b = true) : orK u b e1 = some (true, e1) := by subst hb; rfl
theorem or_f {b : Bool} {q : Bool × Sl} (hb : b = false) (h : u e1 = some q) : orK u b e1 = some q := by subst hb; exact h
theorem ev_not {b : Bool} (h1 : t env = some (b, e1)) : mNot t env = some (!b, e1) := by simp only [mNot, h1, Option.map_some]
def andVK (mb : ME) : Bool → Sl → Option (Res × Sl)
  | true, e => mb e
  | false, e => some (.dat (.bool false), e)
def orVK (mb : ME) : Bool → Sl → Option (Res × Sl)
  | false, e => mb e
  | true, e => some (.dat (.bool true), e)
theorem ev_andV {b : Bool} {q : Res × Sl} (h1 : ma env = some (.dat (.bool b), e1)) (h2 : andVK mb b e1 = some q) : mAndV ma mb env = some q := by
  simp only [mAndV, h1, Option.bind_some]
  cases b <;> exact h2
theorem andV_t {b : Bool} {q : Res × Sl} (hb : b = true) (h : mb e1 = some q) : andVK mb b e1 = some q := by subst hb; exact h
theorem andV_f {b : Bool} (hb : b = false) : andVK mb b e1 = some (.dat (.bool false), e1) := by subst hb; rfl
theorem ev_orV {b : Bool} {q : Res × Sl} (h1 : ma env = some (.dat (.bool b), e1)) (h2 : orVK mb b e1 = some q) : mOrV ma mb env = some q := by
  simp only [mOrV, h1, Option.bind_some]
  cases b <;> exact h2
theorem orV_t {b : Bool} (hb : b = true) : orVK mb b e1 = some (.dat (.bool true), e1) := by subst hb; rfl
theorem orV_f {b : Bool} {q : Res × Sl} (hb : b = false) (h : mb e1 = some q) : orVK mb b e1 = some q := by subst hb; exact h
theorem ev_notV {b : Bool} (h1 : ma env = some (.dat (.bool b), e1)) : mNotV ma env = some (.dat (.bool (!b)), e1) := by simp only [mNotV, h1, Option.bind_some]
def ifK {α : Type} (a c : Sl → Option α) : Bool → Sl → Option α
  | true, e => a e
  | false, e => c e
theorem ev_if {b : Bool} {q : Res × Sl} (h1 : t env = some (b, e1)) (h2 : ifK ma mb b e1 = some q) : mIf t ma mb env = some q := by
  simp only [mIf, h1, Option.bind_some]
  cases b <;> exact h2
theorem ifK_t {α : Type} {a c : Sl → Option α} {b : Bool} {q : α} (hb : b = true) (h : a e1 = some q) : ifK a c b e1 = some q := by subst hb; exact h
theorem ifK_f {α : Type} {a c : Sl → Option α} {b : Bool} {q : α} (hb : b = false) (h : c e1 = some q) : ifK a c b e1 = some q := by subst hb; exact h
theorem ev_nil : mNil env = some ([], env) := rfl
theorem ev_cons {ms : MA} {rs : List Res} (h1 : m env = some (x, e1)) (hx : stab x = y) (h2 : ms e1 = some (rs, e2)) : mCons m ms env = some (y :: rs, e2) := by simp only [mCons, h1, hx, h2, Option.bind_some, Option.map_some]
theorem stab_dat : stab (.dat d) = .dat d := rfl
theorem stab_new {ds : List PyData} : stab (.new (.lst ds)) = .dat (.list ds) := rfl
theorem stab_slt : stab (.slt i) = .slt i := rfl
theorem ev_consU {ms : MA} {rs : List Res} (h1 : mFrzS m env = some (x, e1)) (h2 : ms e1 = some (rs, e2)) : mConsU m ms env = some (x :: rs, e2) := by simp only [mConsU, h1, h2, Option.bind_some, Option.map_some]
theorem ev_lst {ms : MA} {rs : List Res} {ds : List PyData} (h1 : ms env = some (rs, e1)) (h2 : dats rs = some ds) (h3 : ds.length ≤ 100000) : mLst ms env = some (.new (.lst ds), e1) := by simp only [mLst, h1, h2, h3, Option.bind_some, if_true]
theorem ev_tup {ms : MA} {rs : List Res} {ds : List PyData} (h1 : ms env = some (rs, e1)) (h2 : dats rs = some ds) (h3 : ds.length ≤ 100000) : mTup ms env = some (.dat (.tuple ds), e1) := by simp only [mTup, h1, h2, h3, Option.bind_some, if_true]
theorem ev_cb {ms : MA} {rs : List Res} {ds : List PyData} {g : List PyData → Option Res} (h1 : ms env = some (rs, e1)) (h2 : rdAll e1 rs = some ds) (h3 : g ds = some r) : mCB g ms env = some (r, e1) := by simp only [mCB, h1, h2, h3, Option.bind_some, Option.map_some]
theorem ev_bm {T : String} {g : PyData → List PyData → Option Res} {ms : MA} {rs : List Res} {ds : List PyData} (h1 : m env = some (x, e1)) (h2 : rdv e1 (stab x) = some dx) (h3 : tyD T dx = true) (h4 : ms e1 = some (rs, e2)) (h5 : rdv e2 (stab x) = some dy) (h6 : rdAll e2 rs = some ds) (h7 : g dy ds = some r) : mBM T g m ms env = some (r, e2) := by
  simp only [mBM, h1, h2, h3, h4, h5, h6, h7, Option.bind_some, Option.map_some, if_true]
/-! statements -/
variable {a b n : MS} {f : Fl} {q : Fl × Sl}
theorem ev_skip : mSkip env = some (.nx, env) := rfl
def seqK (n : MS) : Fl → Sl → Option (Fl × Sl)
  | .nx, e => n e
  | f, e => some (f, e)
theorem ev_seq (h1 : a env = some (f, e1)) (h2 : seqK n f e1 = some q) : mSeq a n env = some q := by
  simp only [mSeq, h1, Option.bind_some]
  cases f <;> exact h2
theorem seq_nx (h : n e1 = some q) : seqK n .nx e1 = some q := h
theorem seq_rt : seqK n (.rt r) e1 = some (.rt r, e1) := rfl
theorem ev_ifS {c : Bool} (h1 : t env = some (c, e1)) (h2 : ifK a b c e1 = some q) : mIfS t a b env = some q := by
  simp only [mIfS, h1, Option.bind_some]
  cases c <;> exact h2
theorem ev_drop (h1 : m env = some (x, e1)) : mDrop m env = some (.nx, e1) := by simp only [mDrop, h1, Option.map_some]
theorem ev_ret (h1 : m env = some (x, e1)) : mRet m env = some (.rt x, e1) := by simp only [mRet, h1, Option.map_some]
theorem ev_set {p : Res × Sl} (h1 : m env = some p) (h2 : putRes i p = some e2) : mSet i m env = some (.nx, e2) := by simp only [mSet, h1, h2, Option.bind_some, Option.map_some]
theorem put_dat (h : env.set i (.val d) = e1) : putRes i (.dat d, env) = some e1 := by simp only [putRes, h]
theorem put_new {c : Cell} (h : env.set i (.own c) = e1) : putRes i (.new c, env) = some e1 := by simp only [putRes, h]
theorem put_slt {ds : List PyData} (h0 : env[j]? = some (.own (.lst ds))) (h1 : env.set j (.val (.list ds)) = e2) (h : e2.set i (.val (.list ds)) = e1) : putRes i (.slt j, env) = some e1 := by simp only [putRes, frz, h0, h1, h, Option.bind_some]
theorem ev_putU {is : List Nat} {ms : MA} {rs : List Res} (h1 : ms env = some (rs, e1)) (h2 : putsRes is rs e1 = some e2) : mPutU is ms env = some (.nx, e2) := by simp only [mPutU, h1, h2, Option.bind_some, Option.map_some]
theorem puts_nil : putsRes [] [] env = some env := rfl
theorem puts_cons {is : List Nat} {rs : List Res} (h1 : putRes i (x, env) = some e1) (h2 : putsRes is rs e1 = some e2) : putsRes (i :: is) (x :: rs) env = some e2 := by simp only [putsRes, h1, h2, Option.bind_some]
theorem ev_asg {g : MG} (h1 : mFrz m env = some (.dat d, e1)) (h2 : g d e1 = some e2) : mAsg m g env = some (.nx, e2) := by simp only [mAsg, h1, h2, Option.bind_some, Option.map_some]
theorem ev_gname (h : env.set i (.val d) = e1) : mgName i d env = some e1 := by simp only [mgName, h]
theorem ev_gtup {gs : MGs} {ds : List PyData} (h : gs ds env = some e1) : mgTup gs (.tuple ds) env = some e1 := h
theorem ev_gcons {g : MG} {gs : MGs} {ds : List PyData} (h1 : g d env = some e1) (h2 : gs ds e1 = some e2) : mgCons g gs (d :: ds) env = some e2 := by simp only [mgCons, h1, h2, Option.bind_some]
theorem ev_gnil : mgNil [] env = some env := rfl
theorem ev_gsubO {ds ds0 ds' : List PyData} {ki : Int} (h0 : env[i]? = some (.own (.lst ds0))) (h1 : m env = some (.dat (.int ki), e1)) (h2 : e1[i]? = some (.own (.lst ds))) (h3 : ixN ds.length ki = some j) (h4 : ds.set j d = ds') (h5 : e1.set i (.own (.lst ds')) = e2) : mgSub i m d env = some e2 := by
  simp only [mgSub, lstAt, h0, h1, h2, h3, h4, h5, Slot.put, Option.bind_some, Option.map_some]
theorem ev_gsubI {k0 : Nat} {ds ds0 ds' : List PyData} {ki : Int} (h0 : env[i]? = some (.io k0 (.lst ds0))) (h1 : m env = some (.dat (.int ki), e1)) (h2 : e1[i]? = some (.io k (.lst ds))) (h3 : ixN ds.length ki = some j) (h4 : ds.set j d = ds') (h5 : e1.set i (.io k (.lst ds')) = e2) : mgSub i m d env = some e2 := by
  simp only [mgSub, lstAt, h0, h1, h2, h3, h4, h5, Slot.put, Option.bind_some, Option.map_some]
theorem ev_mutO {ff : List PyData → List PyData → Option (List PyData × PyData)} {ms : MA} {ds ds0 es ds' : List PyData} {rs : List Res} {ret : PyData} (h0 : env[i]? = some (.own (.lst ds0))) (h1 : ms env = some (rs, e1)) (h2 : dats rs = some es) (h3 : e1[i]? = some (.own (.lst ds))) (h4 : ff ds es = some (ds', ret)) (h5 : e1.set i (.own (.lst ds')) = e2) : mMut i ff ms env = some (.dat ret, e2) := by
  simp only [mMut, lstAt, h0, h1, h2, h3, h4, h5, Slot.put, Option.bind_some, Option.map_some]
theorem ev_mutI {k0 : Nat} {ff : List PyData → List PyData → Option (List PyData × PyData)} {ms : MA} {ds ds0 es ds' : List PyData} {rs : List Res} {ret : PyData} (h0 : env[i]? = some (.io k0 (.lst ds0))) (h1 : ms env = some (rs, e1)) (h2 : dats rs = some es) (h3 : e1[i]? = some (.io k (.lst ds))) (h4 : ff ds es = some (ds', ret)) (h5 : e1.set i (.io k (.lst ds')) = e2) : mMut i ff ms env = some (.dat ret, e2) := by
  simp only [mMut, lstAt, h0, h1, h2, h3, h4, h5, Slot.put, Option.bind_some, Option.map_some]
theorem dats_nil : dats [] = some [] := rfl
theorem dats_cons {rs : List Res} {ds : List PyData} (h : dats rs = some ds) : dats (.dat d :: rs) = some (d :: ds) := by simp only [dats, h, Option.map_some]
theorem rd_nil : rdAll env [] = some [] := rfl
theorem rd_cons {rs : List Res} {ds : List PyData} (h1 : rdv env x = some d) (h : rdAll env rs = some ds) : rdAll env (x :: rs) = some (d :: ds) := by simp only [rdAll, h1, h, Option.bind_some, Option.map_some]
theorem rdv_dat : rdv env (.dat d) = some d := rfl
theorem rdv_val (h : env[i]? = some (.val d)) : rdv env (.slt i) = some d := by simp only [rdv, h]
theorem rdv_own {ds : List PyData} (h : env[i]? = some (.own (.lst ds))) : rdv env (.slt i) = some (.list ds) := by simp only [rdv, h]
theorem rdv_io {ds : List PyData} (h : env[i]? = some (.io k (.lst ds))) : rdv env (.slt i) = some (.list ds) := by simp only [rdv, h]
theorem av_nil {brw : Bool} {io : Option Nat} : argsV brw io env k [] = some [] := rfl
theorem av_cons {brw : Bool} {io : Option Nat} {s : Slot} {rs : List Res} {ss : Sl} (h1 : argV brw io env k x = some s) (h2 : argsV brw io env (k + 1) rs = some ss) : argsV brw io env k (x :: rs) = some (s :: ss) := by simp only [argsV, h1, h2, Option.bind_some, Option.map_some]
theorem a_dat {brw : Bool} {io : Option Nat} (h : ¬ io = some k) : argV brw io env k (.dat d) = some (.val d) := by simp only [argV, if_neg h]
theorem a_val {brw : Bool} {io : Option Nat} (h : ¬ io = some k) (h2 : env[i]? = some (.val d)) : argV brw io env k (.slt i) = some (.val d) := by simp only [argV, if_neg h, h2]
theorem a_scr {brw : Bool} {io : Option Nat} {ns : List Int} (h : ¬ io = some k) (h2 : env[i]? = some (.scr ns)) : argV brw io env k (.slt i) = some (.scr ns) := by simp only [argV, if_neg h, h2]
theorem a_own {io : Option Nat} {ds : List PyData} (h : ¬ io = some k) (h2 : env[i]? = some (.own (.lst ds))) : argV true io env k (.slt i) = some (.val (.list ds)) := by simp only [argV, if_neg h, h2, if_true]
theorem a_io {io : Option Nat} {l : Nat} {ds : List PyData} (h : ¬ io = some k) (h2 : env[i]? = some (.io l (.lst ds))) : argV true io env k (.slt i) = some (.val (.list ds)) := by simp only [argV, if_neg h, h2, if_true]
theorem a_ioO {brw : Bool} {io : Option Nat} {c : Cell} (h : io = some k) (h2 : env[i]? = some (.own c)) : argV brw io env k (.slt i) = some (.io k c) := by simp only [argV, if_pos h, h2]
theorem a_ioI {brw : Bool} {io : Option Nat} {l : Nat} {c : Cell} (h : io = some k) (h2 : env[i]? = some (.io l c)) : argV brw io env k (.slt i) = some (.io k c) := by simp only [argV, if_pos h, h2]
theorem b_none {rs : List Res} {outs : Sl} : backV none env rs outs = some env := rfl
theorem b_own {qq : Nat} {rs : List Res} {outs : Sl} {c c0 : Cell} (h1 : rs[qq]? = some (.slt i)) (h2 : outs[qq]? = some (.io k c)) (h3 : env[i]? = some (.own c0)) (h4 : env.set i (.own c) = e2) : backV (some qq) env rs outs = some e2 := by simp only [backV, h1, h2, h3, h4, Slot.put]
theorem b_io {qq l : Nat} {rs : List Res} {outs : Sl} {c c0 : Cell} (h1 : rs[qq]? = some (.slt i)) (h2 : outs[qq]? = some (.io k c)) (h3 : env[i]? = some (.io l c0)) (h4 : env.set i (.io l c) = e2) : backV (some qq) env rs outs = some e2 := by simp only [backV, h1, h2, h3, h4, Slot.put]
theorem ev_augI {ff : Int → Int → Int} {p q : Int} (h0 : env[i]? = some (.val (.int p))) (h1 : m env = some (.dat (.int q), e1)) (h2 : e1.set i (.val (.int (ff p q))) = e2) : mAugI i ff m env = some (.nx, e2) := by simp only [mAugI, h0, h1, h2, Option.bind_some]
theorem ev_isi {T : String} {c : Bool} (h1 : m env = some (x, e1)) (h2 : rdv e1 (stab x) = some d) (h3 : kitB (tyN d) T = some c) : mIsi T m env = some (.dat (.bool c), e1) := by simp only [mIsi, h1, h2, h3, Option.bind_some, Option.map_some]
theorem ev_isi2 {S T : String} {c c' : Bool} (h1 : m env = some (x, e1)) (h2 : rdv e1 (stab x) = some d) (h3 : kitB (tyN d) S = some c) (h4 : kitB (tyN d) T = some c') : mIsi2 S T m env = some (.dat (.bool (c || c')), e1) := by simp only [mIsi2, h1, h2, h3, h4, Option.bind_some, Option.map_some]
theorem ev_callF {fm : FM} {io : Option Nat} {ms : MA} {rs : List Res} {ins outs : Sl} (h1 : ms env = some (rs, e1)) (h2 : lentOk io rs = true) (h3 : argsV true io e1 0 rs = some ins) (h4 : fm ins = some (r, outs)) (h5 : (flatR r && outs.all flatS) = true) (h6 : backV io e1 rs outs = some e2) : mCallF fm io ms env = some (r, e2) := by
  simp only [mCallF, h1, h2, h3, h4, h5, h6, Option.bind_some, Option.map_some, if_true]
theorem ev_callV {fm : FM} {io : Option Nat} {ms : MA} {rs : List Res} {ins outs : Sl} (h1 : ms env = some (rs, e1)) (h3 : argsV false io e1 0 rs = some ins) (h4 : fm ins = some (r, outs)) (h6 : backV io e1 rs outs = some e2) : mCallV fm io ms env = some (r, e2) := by
  simp only [mCallV, h1, h3, h4, h6, Option.bind_some, Option.map_some]
theorem ev_fm {np nn : Nat} {mb : MS} {ins e0 : Sl} (h0 : ins.length = np) (hI : ins ++ List.replicate (nn - np) .no = e0) (h1 : mb e0 = some (f, e1)) (h2 : finR (f, e1) = some r) (h3 : ioKept ins e1 = true) (h4 : e1.take np = e2) : fmOf np nn mb ins = some (r, e2) := by
  simp only [fmOf, h0, hI, h1, h2, h3, h4, Option.bind_some, if_true]
theorem ev_sl {gg : PyData → Option Int → Option Int → Option Res} {ml mh : MO} {lo hi : Option Int} (h1 : m env = some (x, e1)) (h2 : ml e1 = some (lo, e2)) (h3 : mh e2 = some (hi, e3)) (h4 : rdv e3 (stab x) = some d) (h5 : gg d lo hi = some r) : mSl gg m ml mh env = some (r, e3) := by
  simp only [mSl, h1, h2, h3, h4, h5, Option.bind_some, Option.map_some]
theorem ev_noPart : mNoPart env = some (none, env) := rfl
theorem ev_part {ki : Int} (h : m env = some (.dat (.int ki), e1)) : mPart m env = some (some ki, e1) := by simp only [mPart, h, Option.bind_some]
theorem ev_slScr {ml mh : MO} {lo hi : Option Int} {ns : List Int} (h0 : env[i]? = some (.scr ns)) (h2 : ml env = some (lo, e2)) (h3 : mh e2 = some (hi, e3)) : mSlScr i ml mh env = some (.new (.lst (cutD (ns.map .int) lo hi)), e3) := by
  simp only [mSlScr, h0, h2, h3, Option.bind_some, Option.map_some]
theorem ev_for {mi : MI} {g : MG} {ds : List PyData} (h1 : mi env = some (ds, e1)) (h2 : forL g b ds e1 = some q) : mFor mi g b env = some q := by simp only [mFor, h1, h2, Option.bind_some]
theorem ev_lc {mi : MI} {g : MG} {vs : List Nat} {ds out : List PyData} (h1 : mi env = some (ds, e1)) (h2 : ds.length ≤ 100000) (hw : wipeS e1 vs = e3) (h3 : lcL g t m vs ds e3 [] = some (out, e2)) : mLc mi g t m vs env = some (.new (.lst out), e2) := by
  simp only [mLc, h1, h2, hw, h3, Option.bind_some, Option.map_some, if_true]
theorem wipe_nil : wipeS env [] = env := rfl
theorem wipe_cons {v : Nat} {vs : List Nat} (h : wipeS env vs = e1) (h2 : e1.set v .no = e2) : wipeS env (v :: vs) = e2 := by simp only [wipeS, h, h2]
theorem ev_range1 {ms : MA} {ki : Int} {rs : List Res} (h1 : ms env = some (rs, e1)) (h2 : rdAll e1 rs = some [.int ki]) (h3 : -(2 ^ 62) ≤ ki ∧ ki < 2 ^ 62) : mRange1 ms env = some ((List.range ki.toNat).map fun i => .int (i : Nat), e1) := by
  simp only [mRange1, h1, h2, Option.bind_some, if_pos h3]
theorem ev_range2 {ms : MA} {lo hi : Int} {rs : List Res} (h1 : ms env = some (rs, e1)) (h2 : rdAll e1 rs = some [.int lo, .int hi]) (h3 : (-(2 ^ 62) ≤ lo ∧ lo < 2 ^ 62) ∧ -(2 ^ 62) ≤ hi ∧ hi < 2 ^ 62) : mRange2 ms env = some ((List.range (hi - lo).toNat).map fun k => .int (lo + (k : Nat)), e1) := by
  simp only [mRange2, h1, h2, Option.bind_some, if_pos h3]
theorem ev_itL {ds : List PyData} (h : mFrz m env = some (.dat (.list ds), e1)) : mItL m env = some (ds, e1) := by simp only [mItL, h, Option.bind_some]
theorem ev_itT {ds : List PyData} (h : mFrz m env = some (.dat (.tuple ds), e1)) : mItT m env = some (ds, e1) := by simp only [mItT, h, Option.bind_some]
theorem ev_enum {ms : MA} {ds : List PyData} (h : ms env = some ([.dat (.list ds)], e1)) : mEnum ms env = some (enumD 0 ds, e1) := by simp only [mEnum, h, Option.bind_some]
theorem ev_zip {ms : MA} {ds es : List PyData} (h : ms env = some ([.dat (.list ds), .dat (.list es)], e1)) : mZip ms env = some (zipD ds es, e1) := by simp only [mZip, h, Option.bind_some]
theorem ev_rev {ms : MA} {ds : List PyData} (h : ms env = some ([.dat (.list ds)], e1)) : mRev ms env = some (ds.reverse, e1) := by simp only [mRev, h, Option.bind_some]
theorem ev_yes : mYes env = some (true, env) := rfl
/-! loops -/
def forK (g : MG) (b : MS) (ds : List PyData) : Fl → Sl → Option (Fl × Sl)
  | .nx, e => forL g b ds e
  | .ct, e => forL g b ds e
  | .bk, e => some (.nx, e)
  | .rt r, e => some (.rt r, e)
theorem for_cons {g : MG} {ds : List PyData} (h1 : g d env = some e1) (h2 : b e1 = some (f, e2)) (h3 : forK g b ds f e2 = some q) : forL g b (d :: ds) env = some q := by
  simp only [forL, h1, h2, Option.bind_some]
  cases f <;> exact h3
theorem for_nil {g : MG} : forL g b [] env = some (.nx, env) := rfl
/-- a loop that never leaves early, by what holds between the turns -/
theorem for_inv {g : MG} (P : Nat → Sl → Prop) : ∀ (ds : List PyData) (k : Nat) (e : Sl), P k e → (∀ (j : Nat) d e, ds[j]? = some d → P (k + j) e → ∃ e1 e2, g d e = some e1 ∧ (b e1 = some (.nx, e2) ∨ b e1 = some (.ct, e2)) ∧ P (k + j + 1) e2) → ∃ e', forL g b ds e = some (.nx, e') ∧ P (k + ds.length) e'
  | [], k, e, h, _ => ⟨e, rfl, h⟩
  | d :: ds, k, e, h, hs => by
    obtain ⟨e1, e2, h1, h2, h3⟩ := hs 0 d e rfl h
    obtain ⟨e', g1, g2⟩ := for_inv P ds (k + 1) e2 h3 fun j d' e q p => by
      have z := hs (j + 1) d' e (by simpa using q) (by rw [show k + (j + 1) = k + 1 + j by omega]; exact p)
      rw [show k + (j + 1) + 1 = k + 1 + j + 1 by omega] at z
      exact z
    refine ⟨e', ?_, by rw [List.length_cons, show k + (ds.length + 1) = k + 1 + ds.length by omega]; exact g2⟩
    rcases h2 with h2 | h2
    · exact for_cons h1 h2 g1
    · exact for_cons h1 h2 g1
/-- a comprehension: each item gives one thing -/
theorem lc_map {g : MG} {vs : List Nat} (P : Nat → Sl → List PyData → Prop) : ∀ (ds : List PyData) (k : Nat) (e : Sl) (acc : List PyData), P k e acc → (∀ (j : Nat) d e acc, ds[j]? = some d → P (k + j) e acc → ∃ e1 e2 x e3, g d e = some e1 ∧ t e1 = some (true, e2) ∧ mFrz m e2 = some (.dat x, e3) ∧ P (k + j + 1) (wipeS e3 vs) (acc ++ [x])) →
    ∃ out e', lcL g t m vs ds e acc = some (out, e') ∧ P (k + ds.length) e' out
  | [], k, e, acc, h, _ => ⟨acc, e, rfl, h⟩
  | d :: ds, k, e, acc, h, hs => by
    obtain ⟨e1, e2, x, e3, h1, h2, h3, h4⟩ := hs 0 d e acc rfl h
    obtain ⟨out, e', g1, g2⟩ := lc_map P ds (k + 1) (wipeS e3 vs) (acc ++ [x]) h4 fun j d' e acc q p => by
      have z := hs (j + 1) d' e acc (by simpa using q) (by rw [show k + (j + 1) = k + 1 + j by omega]; exact p)
      rw [show k + (j + 1) + 1 = k + 1 + j + 1 by omega] at z
      exact z
    refine ⟨out, e', ?_, by rw [List.length_cons, show k + (ds.length + 1) = k + 1 + ds.length by omega]; exact g2⟩
    simp only [lcL, h1, h2, h3, Option.bind_some, if_true]
    exact g1
/-- .. by a function of the item, nothing changed -/
theorem lc_fun {g : MG} {vs : List Nat} (φ : PyData → PyData) (e : Sl) : ∀ (ds acc : List PyData), (∀ d ∈ ds, ∃ e1 e2 e3, g d e = some e1 ∧ t e1 = some (true, e2) ∧ mFrz m e2 = some (.dat (φ d), e3) ∧ wipeS e3 vs = e) → lcL g t m vs ds e acc = some (acc ++ ds.map φ, e)
  | [], acc, _ => by simp [lcL]
  | d :: ds, acc, h => by
    obtain ⟨e1, e2, e3, h1, h2, h3, h4⟩ := h d List.mem_cons_self
    simp only [lcL, h1, h2, h3, h4, Option.bind_some, if_true]
    rw [lc_fun φ e ds (acc ++ [φ d]) fun d' hd => h d' (List.mem_cons_of_mem _ hd)]
    simp
end
theorem set_zero {α : Type} {x y : α} {l : List α} : (x :: l).set 0 y = y :: l := rfl
theorem set_succ {α : Type} {x y : α} {l l' : List α} {n : Nat} (h : l.set n y = l') : (x :: l).set (n + 1) y = x :: l' := by rw [List.set_cons_succ, h]
theorem app_nil {α : Type} {l l' : List α} (h : l = l') : [] ++ l = l' := h
theorem app_cons {α : Type} {x : α} {k l l' : List α} (h : k ++ l = l') : (x :: k) ++ l = x :: l' := by rw [List.cons_append, h]
theorem rep_zero {α : Type} {x : α} : List.replicate 0 x = [] := rfl
theorem rep_succ {α : Type} {x : α} {n : Nat} {l : List α} (h : List.replicate n x = l) : List.replicate (n + 1) x = x :: l := by rw [List.replicate_succ, h]
theorem take_zero {α : Type} {l : List α} : l.take 0 = [] := rfl
theorem take_succ {α : Type} {x : α} {l l' : List α} {n : Nat} (h : l.take n = l') : (x :: l).take (n + 1) = x :: l' := by rw [List.take_succ_cons, h]
/-! operations on numbers -/
theorem g_div {a b : Int} (h : 0 < b ∧ b < 1073741824) : gDiv (.int a) (.int b) = some (.dat (.int (a / b))) := by simp only [gDiv, h, and_self, if_true]
theorem g_mod {a b : Int} (h : 0 < b) : gMod (.int a) (.int b) = some (.dat (.int (a % b))) := by simp only [gMod, h, if_true]
theorem g_mul {a b : Int} (h : (-(2 ^ 64) < a ∧ a < 2 ^ 64) ∨ (-(2 ^ 64) < b ∧ b < 2 ^ 64)) : gMul (.int a) (.int b) = some (.dat (.int (a * b))) := by simp only [gMul, h, if_true]
theorem g_rep {ds : List PyData} {k : Int} (h : -(2 ^ 63) ≤ k ∧ k < 2 ^ 63 ∧ ds.length * k.toNat ≤ 100000) : gMul (.list ds) (.int k) = some (.new (.lst (repD ds k))) := by simp only [gMul, if_pos h]
theorem g_cat {xs ys : List PyData} (h : xs.length + ys.length ≤ 100000) : gAdd (.list xs) (.list ys) = some (.new (.lst (xs ++ ys))) := by simp only [gAdd, h, if_true]
theorem g_catS {xs ys : Str} (h : xs.length + ys.length ≤ 100000) : gAdd (.str xs) (.str ys) = some (.dat (.str (xs ++ ys))) := by simp only [gAdd, h, if_true]
theorem g_pow {a b : Int} (h : 0 ≤ b ∧ b ≤ 1000000 ∧ a.natAbs < 2 ^ 64) : gPow (.int a) (.int b) = some (.dat (.int (a ^ b.toNat))) := by simp only [gPow, if_pos h]
theorem g_ixL {ds : List PyData} {i : Int} {d : PyData} (h : atI ds i = some d) : gIx (.list ds) (.int i) = some (.dat d) := by simp only [gIx, h, Option.map_some]
theorem g_ixT {ds : List PyData} {i : Int} {d : PyData} (h : atI ds i = some d) : gIx (.tuple ds) (.int i) = some (.dat d) := by simp only [gIx, h, Option.map_some]
theorem f_app {ds : List PyData} {d : PyData} (h : ds.length < 100000) : fApp ds [d] = some (ds ++ [d], .none) := by simp only [fApp, h, if_true]
theorem f_ext {ds es : List PyData} (h : ds.length + es.length ≤ 100000) : fExt ds [.list es] = some (ds ++ es, .none) := by simp only [fExt, h, if_true]
theorem ints_map : ∀ ns : List Int, intsD (ns.map .int) = some ns
  | [] => rfl
  | n :: ns => by simp only [List.map_cons, intsD, ints_map ns, Option.map_some]
theorem bools_map : ∀ ns : List Bool, boolsD (ns.map .bool) = some ns
  | [] => rfl
  | n :: ns => by simp only [List.map_cons, boolsD, bools_map ns, Option.map_some]
theorem g_lt {a b : Int} : gCmp (fun i j => decide (i < j)) (.int a) (.int b) = some (.dat (.bool (decide (a < b)))) := rfl
theorem g_le {a b : Int} : gCmp (fun i j => decide (i ≤ j)) (.int a) (.int b) = some (.dat (.bool (decide (a ≤ b)))) := rfl
theorem g_gt {a b : Int} : gCmp (fun i j => decide (j < i)) (.int a) (.int b) = some (.dat (.bool (decide (b < a)))) := rfl
theorem g_ge {a b : Int} : gCmp (fun i j => decide (j ≤ i)) (.int a) (.int b) = some (.dat (.bool (decide (b ≤ a)))) := rfl
theorem g_abs {a : Int} : gInt1 (fun i => if i < 0 then -i else i) [.int a] = some (.dat (.int (if a < 0 then -a else a))) := rfl
theorem g_max {a b : Int} : gInt2 (fun i j => if j > i then j else i) [.int a, .int b] = some (.dat (.int (if b > a then b else a))) := rfl
theorem g_min {a b : Int} : gInt2 (fun i j => if j < i then j else i) [.int a, .int b] = some (.dat (.int (if b < a then b else a))) := rfl
theorem g_add {a b : Int} : gAdd (.int a) (.int b) = some (.dat (.int (a + b))) := rfl
theorem g_minus {a b : Int} : gMinus (.int a) (.int b) = some (.dat (.int (a - b))) := rfl
theorem g_neg {a : Int} : gNeg (.int a) = some (.dat (.int (-a))) := rfl
theorem g_lenL {ds : List PyData} : gLen [.list ds] = some (.dat (.int (ds.length : Int))) := rfl
theorem g_lenI {ns : List Int} : gLen [.list (ns.map .int)] = some (.dat (.int (ns.length : Int))) := by show some (Res.dat (PyData.int ((ns.map PyData.int).length : Nat))) = _; rw [List.length_map]
theorem g_listL {ds : List PyData} : gList [.list ds] = some (.new (.lst ds)) := rfl
theorem g_listT {ds : List PyData} : gList [.tuple ds] = some (.new (.lst ds)) := rfl
theorem ev_augAdd {env e1 e2 : Sl} {m : ME} {i : Nat} {p q : Int} (h0 : env[i]? = some (.val (.int p))) (h1 : m env = some (.dat (.int q), e1)) (h2 : e1.set i (.val (.int (p + q))) = e2) : mAugI i (fun i j => i + j) m env = some (.nx, e2) := ev_augI h0 h1 h2
theorem g_sum {ns : List Int} : gSum [.list (ns.map .int)] = some (.dat (.int ns.sum)) := by simp only [gSum, ints_map, Option.map_some]
theorem g_all {bs : List Bool} : gAll [.list (bs.map .bool)] = some (.dat (.bool (bs.all id))) := by simp only [gAll, bools_map, Option.map_some]
theorem g_eqN {neg : Bool} {a b : PyData} (h : scalD a b = true) : gEq neg a b = some (.dat (.bool (neg ^^ PyData.eqv a b))) := by simp only [gEq, h, Bool.true_or, if_true]
theorem shaped_ints (ns : List Int) : SeqAt.shaped (.list (ns.map .int)) = true := by
  have h1 : ∀ ns : List Int, PyData.canLayAll0 (ns.map .int) = true := fun ns => by
    induction ns with
    | nil => rfl
    | cons n ns ih =>
      show (PyData.canLay0 (.int n) && PyData.canLayAll0 (ns.map .int)) = true
      rw [ih]
      rfl
  have h2 : ∀ ns : List Int, PyData.depthAll (ns.map .int) = 0 := fun ns => by
    induction ns with
    | nil => rfl
    | cons n ns ih =>
      show max (PyData.depth (.int n)) (PyData.depthAll (ns.map .int)) = 0
      rw [ih]
      rfl
  unfold SeqAt.shaped
  show (PyData.canLayAll0 (ns.map .int) && decide (PyData.depthAll (ns.map .int) + 1 ≤ 64)) = true
  rw [h1, h2]
  rfl
theorem eqvAll_ints : ∀ xs ys : List Int, PyData.eqvAll (xs.map .int) (ys.map .int) = decide (xs = ys)
  | [], [] => rfl
  | [], _ :: _ => rfl
  | _ :: _, [] => rfl
  | x :: xs, y :: ys => by
    show (PyData.eqv (.int x) (.int y) && PyData.eqvAll (xs.map .int) (ys.map .int)) = _
    rw [eqvAll_ints xs ys]
    show ((x == y) && decide (xs = ys)) = _
    by_cases h1 : x = y <;> by_cases h2 : xs = ys <;> simp [h1, h2]
theorem g_eqI {neg : Bool} {a b : Int} : gEq neg (.int a) (.int b) = some (.dat (.bool (neg ^^ decide (a = b)))) := by
  show some (Res.dat (PyData.bool (neg ^^ (a == b)))) = _
  rw [show (a == b) = decide (a = b) from rfl]
theorem g_eqLI {neg : Bool} {xs ys : List Int} : gEq neg (.list (xs.map .int)) (.list (ys.map .int)) = some (.dat (.bool (neg ^^ decide (xs = ys)))) := by
  unfold gEq
  rw [shaped_ints, shaped_ints, Bool.and_self, Bool.or_true, if_pos rfl]
  show some (Res.dat (PyData.bool (neg ^^ PyData.eqvAll (xs.map .int) (ys.map .int)))) = _
  rw [eqvAll_ints]
theorem g_eqL0 {neg : Bool} {xs : List Int} : gEq neg (.list (xs.map .int)) (.list []) = some (.dat (.bool (neg ^^ decide (xs = [])))) := g_eqLI (ys := [])
theorem g_eq0L {neg : Bool} {xs : List Int} : gEq neg (.list []) (.list (xs.map .int)) = some (.dat (.bool (neg ^^ decide ([] = xs)))) := g_eqLI (xs := [])
theorem ints_cut_to {ns : List Int} (k : Nat) : cutD (ns.map .int) none (some (k : Int)) = (ns.take k).map .int := by
  unfold cutD
  rw [HT.sIx_none, HT.sIx_nat, List.drop_zero, Nat.sub_zero, List.map_take]
  by_cases h : k ≤ (ns.map PyData.int).length
  · rw [Nat.min_eq_left h]
  · rw [Nat.min_eq_right (by omega), List.take_of_length_le (Nat.le_refl _), List.take_of_length_le (by omega)]
theorem kit_NoneType_bool : kitB "NoneType" "bool" = some false := by decide +kernel
theorem kit_NoneType_int : kitB "NoneType" "int" = some false := by decide +kernel
theorem kit_NoneType_str : kitB "NoneType" "str" = some false := by decide +kernel
theorem kit_NoneType_list : kitB "NoneType" "list" = some false := by decide +kernel
theorem kit_NoneType_tuple : kitB "NoneType" "tuple" = some false := by decide +kernel
theorem kit_bool_bool : kitB "bool" "bool" = some true := by decide +kernel
theorem kit_bool_int : kitB "bool" "int" = some true := by decide +kernel
theorem kit_bool_str : kitB "bool" "str" = some false := by decide +kernel
theorem kit_bool_list : kitB "bool" "list" = some false := by decide +kernel
theorem kit_bool_tuple : kitB "bool" "tuple" = some false := by decide +kernel
theorem kit_int_bool : kitB "int" "bool" = some false := by decide +kernel
theorem kit_int_int : kitB "int" "int" = some true := by decide +kernel
theorem kit_int_str : kitB "int" "str" = some false := by decide +kernel
theorem kit_int_list : kitB "int" "list" = some false := by decide +kernel
theorem kit_int_tuple : kitB "int" "tuple" = some false := by decide +kernel
theorem kit_str_bool : kitB "str" "bool" = some false := by decide +kernel
theorem kit_str_int : kitB "str" "int" = some false := by decide +kernel
theorem kit_str_str : kitB "str" "str" = some true := by decide +kernel
theorem kit_str_list : kitB "str" "list" = some false := by decide +kernel
theorem kit_str_tuple : kitB "str" "tuple" = some false := by decide +kernel
theorem kit_list_bool : kitB "list" "bool" = some false := by decide +kernel
theorem kit_list_int : kitB "list" "int" = some false := by decide +kernel
theorem kit_list_str : kitB "list" "str" = some false := by decide +kernel
theorem kit_list_list : kitB "list" "list" = some true := by decide +kernel
theorem kit_list_tuple : kitB "list" "tuple" = some false := by decide +kernel
theorem kit_tuple_bool : kitB "tuple" "bool" = some false := by decide +kernel
theorem kit_tuple_int : kitB "tuple" "int" = some false := by decide +kernel
theorem kit_tuple_str : kitB "tuple" "str" = some false := by decide +kernel
theorem kit_tuple_list : kitB "tuple" "list" = some false := by decide +kernel
theorem kit_tuple_tuple : kitB "tuple" "tuple" = some true := by decide +kernel
theorem cd_tx_f {p : Prop} [Decidable p] (h : p) : (true ^^ decide p) = false := by rw [decide_eq_true h]; rfl
theorem cd_tx_t {p : Prop} [Decidable p] (h : ¬ p) : (true ^^ decide p) = true := by rw [decide_eq_false h]; rfl
theorem cd_fx_t {p : Prop} [Decidable p] (h : p) : (false ^^ decide p) = true := by rw [decide_eq_true h]; rfl
theorem cd_fx_f {p : Prop} [Decidable p] (h : ¬ p) : (false ^^ decide p) = false := by rw [decide_eq_false h]; rfl
theorem cd_not_t {b : Bool} (h : b = false) : (!b) = true := by rw [h]; rfl
theorem cd_not_f {b : Bool} (h : b = true) : (!b) = false := by rw [h]; rfl
/-! the shapes of what is left to be looked up -/
theorem sh_get {l : Sl} {i : Nat} {x : Slot} (h : l[i]? = some x) : l[i]? = some x := h
theorem sh_rdv {l : Sl} {r : Res} {x : PyData} (h : rdv l r = some x) : rdv l r = some x := h
theorem sh_dats {l : List Res} {x : List PyData} (h : dats l = some x) : dats l = some x := h
theorem sh_rdAll {e : Sl} {l : List Res} {x : List PyData} (h : rdAll e l = some x) : rdAll e l = some x := h
theorem sh_argsV {b : Bool} {io : Option Nat} {e x : Sl} {k : Nat} {l : List Res} (h : argsV b io e k l = some x) : argsV b io e k l = some x := h
theorem sh_backV {io : Option Nat} {e o x : Sl} {l : List Res} (h : backV io e l o = some x) : backV io e l o = some x := h
theorem sh_lent {io : Option Nat} {l : List Res} (h : lentOk io l = true) : lentOk io l = true := h
theorem sh_wipe {e x : Sl} {l : List Nat} (h : wipeS e l = x) : wipeS e l = x := h
theorem sh_kit {a b : String} {x : Bool} (h : kitB a b = some x) : kitB a b = some x := h
theorem sh_tyD {a : String} {d : PyData} (h : tyD a d = true) : tyD a d = true := h
theorem sh_setS {l x : Sl} {i : Nat} {s : Slot} (h : l.set i s = x) : l.set i s = x := h
theorem sh_setD {l x : List PyData} {i : Nat} {s : PyData} (h : l.set i s = x) : l.set i s = x := h
theorem sh_ixN {n k : Nat} {i : Int} (h : ixN n i = some k) : ixN n i = some k := h
theorem sh_len {l : List PyData} {n : Nat} (h : l.length ≤ n) : l.length ≤ n := h
theorem sh_and {p q : Prop} (h : p ∧ q) : p ∧ q := h
theorem sh_flat {r : Res} {l : Sl} (h : (flatR r && l.all flatS) = true) : (flatR r && l.all flatS) = true := h
theorem sh_gInt {l : List PyData} {r : Res} (h : gInt l = some r) : gInt l = some r := h
theorem sh_gIsN {n : Bool} {a b : PyData} {r : Res} (h : gIsN n a b = some r) : gIsN n a b = some r := h
theorem sh_gStr {l : List PyData} {r : Res} (h : gStr l = some r) : gStr l = some r := h
theorem sh_gSlL {d : PyData} {a b : Option Int} {r : Res} (h : gSlL d a b = some r) : gSlL d a b = some r := h
theorem sh_gLen {l : List PyData} {r : Res} (h : gLen l = some r) : gLen l = some r := h
theorem sh_gList {l : List PyData} {r : Res} (h : gList l = some r) : gList l = some r := h
theorem sh_gAll {l : List PyData} {r : Res} (h : gAll l = some r) : gAll l = some r := h
theorem sh_gAny {l : List PyData} {r : Res} (h : gAny l = some r) : gAny l = some r := h
theorem sh_gSum {l : List PyData} {r : Res} (h : gSum l = some r) : gSum l = some r := h
theorem sh_fRev {l m : List PyData} {r : List PyData × PyData} (h : fRev l m = some r) : fRev l m = some r := h
theorem sh_fPopAt {l m : List PyData} {r : List PyData × PyData} (h : fPopAt l m = some r) : fPopAt l m = some r := h
theorem sh_gAdd {a b : PyData} {r : Res} (h : gAdd a b = some r) : gAdd a b = some r := h
theorem sh_gEq {n : Bool} {a b : PyData} {r : Res} (h : gEq n a b = some r) : gEq n a b = some r := h
end Cm
/-! plain facts: items, slices, menus, rows of sizes -/
namespace Cm
open PySem L2
theorem g_mulB {z : Int} {b : Bool} : gMul (.int z) (.int (if b then 1 else 0)) = some (.dat (.int (z * if b then 1 else 0))) := g_mul (.inr (by cases b <;> decide))
theorem atI_of {α : Type} {l : List α} {r : Int} (h0 : 0 ≤ r) (h : r < (l.length : Int)) : atI l r = some (l[r.toNat]'(by omega)) := by
  unfold atI ixN
  rw [if_pos h0, if_pos h]
  show l[r.toNat]? = _
  exact List.getElem?_eq_getElem _
theorem atI_int {ns : List Int} {r : Int} (h0 : 0 ≤ r) (h : r < (ns.length : Int)) : ∃ z, atI (ns.map PyData.int) r = some (.int z) ∧ ns[r.toNat]? = some z ∧ z ∈ ns := by
  have hl : r.toNat < ns.length := by omega
  refine ⟨ns[r.toNat], ?_, List.getElem?_eq_getElem hl, List.getElem_mem hl⟩
  rw [atI_of h0 (by rw [List.length_map]; exact h)]
  congr 1
  exact List.getElem_map ..
theorem atI_last1 {α : Type} {l : List α} {x : α} : atI (l ++ [x]) (-1) = some x := by
  unfold atI ixN
  rw [if_neg (by decide), if_pos (by rw [List.length_append]; simp; omega)]
  show (l ++ [x])[(-1 + ((l ++ [x]).length : Int)).toNat]? = some x
  have : (-1 + ((l ++ [x]).length : Int)).toNat = l.length := by
    rw [List.length_append, List.length_singleton]
    omega
  rw [this]
  simp
theorem ixN_of {n : Nat} {i : Int} (h0 : 0 ≤ i) (h : i < (n : Int)) : ixN n i = some i.toNat := by
  unfold ixN
  rw [if_pos h0, if_pos h]
theorem set_ints {cs : List Int} {j : Nat} {z : Int} : (cs.map PyData.int).set j (.int z) = (cs.set j z).map .int := by rw [List.map_set]
theorem menu2 {a b : PyData} {r : Int} (h0 : 0 ≤ r) (h : r < 2) : ∃ d, atI [a, b] r = some d ∧ (d = a ∨ d = b) := by
  rcases (show r = 0 ∨ r = 1 by omega) with rfl | rfl
  · exact ⟨a, rfl, .inl rfl⟩
  · exact ⟨b, rfl, .inr rfl⟩
theorem menu3 {a b c : PyData} {r : Int} (h0 : 0 ≤ r) (h : r < 3) : ∃ d, atI [a, b, c] r = some d ∧ (d = a ∨ d = b ∨ d = c) := by
  rcases (show r = 0 ∨ r = 1 ∨ r = 2 by omega) with rfl | rfl | rfl
  · exact ⟨a, rfl, .inl rfl⟩
  · exact ⟨b, rfl, .inr (.inl rfl)⟩
  · exact ⟨c, rfl, .inr (.inr rfl)⟩
theorem menuI2 {a b r : Int} (h0 : 0 ≤ r) (h : r < 2) : ∃ d, atI [PyData.int a, .int b] r = some (.int d) ∧ (d = a ∨ d = b) := by
  rcases (show r = 0 ∨ r = 1 by omega) with rfl | rfl
  · exact ⟨a, rfl, .inl rfl⟩
  · exact ⟨b, rfl, .inr rfl⟩
theorem menuI3 {a b c r : Int} (h0 : 0 ≤ r) (h : r < 3) : ∃ d, atI [PyData.int a, .int b, .int c] r = some (.int d) ∧ (d = a ∨ d = b ∨ d = c) := by
  rcases (show r = 0 ∨ r = 1 ∨ r = 2 by omega) with rfl | rfl | rfl
  · exact ⟨a, rfl, .inl rfl⟩
  · exact ⟨b, rfl, .inr (.inl rfl)⟩
  · exact ⟨c, rfl, .inr (.inr rfl)⟩
theorem menuI4 {a b c e r : Int} (h0 : 0 ≤ r) (h : r < 4) : ∃ d, atI [PyData.int a, .int b, .int c, .int e] r = some (.int d) ∧ (d = a ∨ d = b ∨ d = c ∨ d = e) := by
  rcases (show r = 0 ∨ r = 1 ∨ r = 2 ∨ r = 3 by omega) with rfl | rfl | rfl | rfl
  · exact ⟨a, rfl, .inl rfl⟩
  · exact ⟨b, rfl, .inr (.inl rfl)⟩
  · exact ⟨c, rfl, .inr (.inr (.inl rfl))⟩
  · exact ⟨e, rfl, .inr (.inr (.inr rfl))⟩
theorem menuI5 {a b c e f r : Int} (h0 : 0 ≤ r) (h : r < 5) : ∃ d, atI [PyData.int a, .int b, .int c, .int e, .int f] r = some (.int d) ∧ (d = a ∨ d = b ∨ d = c ∨ d = e ∨ d = f) := by
  rcases (show r = 0 ∨ r = 1 ∨ r = 2 ∨ r = 3 ∨ r = 4 by omega) with rfl | rfl | rfl | rfl | rfl
  · exact ⟨a, rfl, .inl rfl⟩
  · exact ⟨b, rfl, .inr (.inl rfl)⟩
  · exact ⟨c, rfl, .inr (.inr (.inl rfl))⟩
  · exact ⟨e, rfl, .inr (.inr (.inr (.inl rfl)))⟩
  · exact ⟨f, rfl, .inr (.inr (.inr (.inr rfl)))⟩
theorem menuI6 {a b c e f g r : Int} (h0 : 0 ≤ r) (h : r < 6) : ∃ d, atI [PyData.int a, .int b, .int c, .int e, .int f, .int g] r = some (.int d) ∧ (d = a ∨ d = b ∨ d = c ∨ d = e ∨ d = f ∨ d = g) := by
  rcases (show r = 0 ∨ r = 1 ∨ r = 2 ∨ r = 3 ∨ r = 4 ∨ r = 5 by omega) with rfl | rfl | rfl | rfl | rfl | rfl
  · exact ⟨a, rfl, .inl rfl⟩
  · exact ⟨b, rfl, .inr (.inl rfl)⟩
  · exact ⟨c, rfl, .inr (.inr (.inl rfl))⟩
  · exact ⟨e, rfl, .inr (.inr (.inr (.inl rfl)))⟩
  · exact ⟨f, rfl, .inr (.inr (.inr (.inr (.inl rfl))))⟩
  · exact ⟨g, rfl, .inr (.inr (.inr (.inr (.inr rfl))))⟩
/-! slices -/
theorem cut_to {ds : List PyData} (k : Nat) : cutD ds none (some (k : Int)) = ds.take k := by
  unfold cutD
  rw [HT.sIx_none, HT.sIx_nat, List.drop_zero, Nat.sub_zero]
  by_cases h : k ≤ ds.length
  · rw [Nat.min_eq_left h]
  · rw [Nat.min_eq_right (by omega), List.take_of_length_le (Nat.le_refl _), List.take_of_length_le (by omega)]
theorem cut_from {ds : List PyData} (k : Nat) : cutD ds (some (k : Int)) none = ds.drop k := by
  unfold cutD
  rw [HT.sIx_none, HT.sIx_nat]
  by_cases h : k ≤ ds.length
  · rw [Nat.min_eq_left h, List.take_of_length_le (by rw [List.length_drop]; omega)]
  · rw [Nat.min_eq_right (by omega), List.drop_eq_nil_of_le (Nat.le_refl _), List.drop_eq_nil_of_le (by omega), List.take_nil]
theorem cut_mid {ds : List PyData} (k l : Nat) : cutD ds (some (k : Int)) (some (l : Int)) = (ds.drop k).take (l - k) := by
  unfold cutD
  rw [HT.sIx_nat, HT.sIx_nat]
  by_cases h : k ≤ ds.length
  · rw [Nat.min_eq_left h]
    by_cases h2 : l ≤ ds.length
    · rw [Nat.min_eq_left h2]
    · rw [Nat.min_eq_right (by omega), List.take_of_length_le (by rw [List.length_drop]; omega), List.take_of_length_le (by rw [List.length_drop]; omega)]
  · rw [Nat.min_eq_right (show ds.length ≤ k by omega), List.drop_eq_nil_of_le (Nat.le_refl _), List.drop_eq_nil_of_le (show ds.length ≤ k by omega), List.take_nil, List.take_nil]
theorem all_flat_ints (ns : List Int) : (ns.map PyData.int).all flatD = true := by
  rw [List.all_map]
  exact List.all_eq_true.mpr fun _ _ => rfl
/-- a comprehension over whole numbers -/
theorem lc_ints {g : MG} {t : MT} {m : ME} {vs : List Nat} (f : Int → Int) (e : Sl) : ∀ (ns acc : List Int), (∀ z ∈ ns, ∃ e1 e2 e3, g (.int z) e = some e1 ∧ t e1 = some (true, e2) ∧ mFrz m e2 = some (.dat (.int (f z)), e3) ∧ wipeS e3 vs = e) → lcL g t m vs (ns.map .int) e (acc.map .int) = some ((acc ++ ns.map f).map .int, e)
  | [], acc, _ => by simp [lcL]
  | z :: ns, acc, h => by
    obtain ⟨e1, e2, e3, h1, h2, h3, h4⟩ := h z List.mem_cons_self
    have ih := lc_ints f e ns (acc ++ [f z]) fun d' hd => h d' (List.mem_cons_of_mem _ hd)
    rw [List.map_append] at ih
    simp only [List.map_cons, lcL, h1, h2, h3, h4, Option.bind_some, if_true]
    refine Eq.trans ih ?_
    simp
/-! rows of sizes: the list, its last one, how many -/
inductive Rw : List Int → Int → Nat → Prop
  | one {s : Int} (h1 : 1 ≤ s) (h2 : s ≤ 100) : Rw [s] s 1
  | more {l : List Int} {s t : Int} {n : Nat} : Rw l s n → 2 ≤ t → t ≤ 12 → Rw (l ++ [s * t]) (s * t) (n + 1)
theorem Rw.len {l : List Int} {s : Int} {n : Nat} (h : Rw l s n) : l.length = n := by
  induction h with
  | one _ _ => rfl
  | more _ _ _ ih => rw [List.length_append, ih]; rfl
theorem Rw.pos {l : List Int} {s : Int} {n : Nat} (h : Rw l s n) : 0 < n := by cases h <;> omega
theorem Rw.last {l : List Int} {s : Int} {n : Nat} (h : Rw l s n) : ∃ k, l = k ++ [s] := by
  cases h with
  | one _ _ => exact ⟨[], rfl⟩
  | more _ _ _ => exact ⟨_, rfl⟩
theorem Rw.big {l : List Int} {s : Int} {n : Nat} (h : Rw l s n) : 1 ≤ s ∧ s ≤ 100 * 12 ^ (n - 1) := by
  induction h with
  | one h1 h2 => exact ⟨h1, h2⟩
  | @more l s t n h0 h1 h2 ih =>
    have hp := h0.pos
    refine ⟨?_, ?_⟩
    · have : 1 * 1 ≤ s * t := Int.mul_le_mul ih.1 (by omega) (by omega) (by omega)
      omega
    · have h3 : s * t ≤ (100 * 12 ^ (n - 1)) * 12 := Int.mul_le_mul ih.2 h2 (by omega) (by omega)
      have h4 : (12 : Int) ^ (n + 1 - 1) = 12 ^ (n - 1) * 12 := by
        rw [← Int.pow_succ]
        congr 1
        omega
      rw [h4, ← Int.mul_assoc]
      exact h3
theorem Rw.bound {l : List Int} {s : Int} {n : Nat} (h : Rw l s n) (hn : n ≤ 5) : s ≤ 2073600 := by
  have h1 := h.big.2
  have h2 := h.pos
  rcases (show n = 1 ∨ n = 2 ∨ n = 3 ∨ n = 4 ∨ n = 5 by omega) with rfl | rfl | rfl | rfl | rfl <;> simp at h1 <;> omega
/-- all of them -/
theorem Rw.mem {l : List Int} {s : Int} {n : Nat} (h : Rw l s n) : ∀ x ∈ l, 1 ≤ x ∧ x ≤ s := by
  induction h with
  | one h1 h2 =>
    intro x hx
    rw [List.mem_singleton] at hx
    omega
  | @more l s t n h0 h1 h2 ih =>
    intro x hx
    have hb := h0.big.1
    have h3 : s * 1 ≤ s * t := Int.mul_le_mul_of_nonneg_left (by omega) (by omega)
    rcases List.mem_append.mp hx with hx | hx
    · have := ih x hx
      omega
    · rw [List.mem_singleton] at hx
      omega
/-- rising -/
theorem Rw.step {l : List Int} {s : Int} {n : Nat} (h : Rw l s n) : ∀ (i : Nat) x y, l[i]? = some x → l[i + 1]? = some y → x ≤ y ∧ ∃ t, 2 ≤ t ∧ t ≤ 12 ∧ y = x * t := by
  induction h with
  | one h1 h2 =>
    intro i x y h3 h4
    simp at h4
  | @more l s t n h0 h1 h2 ih =>
    intro i x y h3 h4
    by_cases hi : i + 1 < l.length
    · rw [List.getElem?_append_left hi] at h4
      rw [List.getElem?_append_left (by omega)] at h3
      exact ih i x y h3 h4
    · have hi2 : i + 1 = l.length := by
        have := (List.getElem?_eq_some_iff.mp h4).1
        rw [List.length_append, List.length_singleton] at this
        omega
      rw [List.getElem?_append_right (by omega), hi2, Nat.sub_self] at h4
      simp at h4
      rw [List.getElem?_append_left (by omega)] at h3
      obtain ⟨k, rfl⟩ := h0.last
      rw [List.length_append, List.length_singleton] at hi2
      rw [List.getElem?_append_right (by omega), show i - k.length = 0 by omega] at h3
      simp at h3
      subst h3 h4
      have hb := h0.big.1
      have h5 : s * 1 ≤ s * t := Int.mul_le_mul_of_nonneg_left (by omega) (by omega)
      exact ⟨by omega, t, h1, h2, rfl⟩
theorem erase_ints : ∀ (l : List Int) (k : Nat), (l.map PyData.int).eraseIdx k = (l.eraseIdx k).map .int
  | [], _ => rfl
  | _ :: _, 0 => rfl
  | x :: l, k + 1 => by
    show PyData.int x :: (l.map PyData.int).eraseIdx k = PyData.int x :: (l.eraseIdx k).map .int
    rw [erase_ints l k]
theorem fl_and {r : Res} {l : Sl} (h1 : flatR r = true) (h2 : l.all flatS = true) : (flatR r && l.all flatS) = true := by rw [h1, h2]; rfl
theorem flatR_ints {ns : List Int} : flatR (.new (.lst (ns.map .int))) = true := all_flat_ints ns
end Cm
namespace Cm
open PySem L2
section
variable {env e1 e2 e3 : Sl} {m : ME} {r : Res}
theorem ev_callN {fm : FM} {c : Cell} {outs : Sl} (h1 : m env = some (.new c, e1)) (h2 : fm [.io 0 c] = some (r, outs)) : mCallN fm m env = some (r, e1) := by
  simp only [mCallN, h1, h2, Option.bind_some, Option.map_some]
theorem ev_range3d {ms : MA} {lo hi : Int} {rs : List Res} (h1 : ms env = some (rs, e1)) (h2 : rdAll e1 rs = some [.int lo, .int hi, .int (-1)]) (h3 : (-(2 ^ 62) ≤ lo ∧ lo < 2 ^ 62) ∧ -(2 ^ 62) ≤ hi ∧ hi < 2 ^ 62) : mRange3 ms env = some ((List.range (lo - hi).toNat).map fun k => .int (lo - (k : Nat)), e1) := by
  have h4 := PySem.W.small_down h3.1.1 h3.1.2 h3.2.1 h3.2.2
  have h5 := PySem.W.rangeSize_downNat lo hi
  have h6 : ((-1 : Int) ≠ 0 ∧ (-1 : Int).natAbs < 1073741824) ∧ Builtin.Range.small lo hi (-1) = true := ⟨by decide, h4⟩
  simp only [mRange3, h1, h2, Option.bind_some, if_pos h6, h5, Int.toNat_natCast]
  congr 2
  apply List.map_congr_left
  intro k _
  congr 1
  omega
theorem ev_revL {x : Res} {ds : List PyData} (h1 : m env = some (x, e1)) (h2 : rdv e1 (stab x) = some (.list ds)) : mRevL m env = some (.new (.lst ds.reverse), e1) := by
  simp only [mRevL, h1, h2, Option.bind_some]
theorem g_sorted {ns : List Int} : gSorted [.list (ns.map .int)] = some (.new (.lst ((isort ns).map .int))) := by simp only [gSorted, ints_map, Option.map_some]
theorem isort_down {ns : List Int} (h : ns.Pairwise (fun a b => b ≤ a)) : (isort ns).reverse = ns := by
  have h1 : isort ns = ns.reverse := sorted_uniq ((isort_perm ns).trans (List.reverse_perm ns).symm) (isort_up ns) (List.pairwise_reverse.mpr h)
  rw [h1, List.reverse_reverse]
theorem rep_ints (a : Int) (n : Nat) : (List.replicate n [PyData.int a]).flatten = (List.replicate n a).map .int := by
  induction n with
  | zero => rfl
  | succ n ih =>
    rw [List.replicate_succ, List.flatten_cons, ih]
    rfl
theorem g_repI {a k : Int} (h : -1000000 ≤ k ∧ k ≤ 100000) : gMul (.list [.int a]) (.int k) = some (.new (.lst ((List.replicate k.toNat a).map .int))) := by
  rw [g_rep (ds := [.int a]) (k := k) ⟨by omega, by omega, by
    show 1 * k.toNat ≤ 100000
    omega⟩]
  unfold repD
  rw [rep_ints]
theorem perm_sum {l l' : List Int} (h : l.Perm l') : l.sum = l'.sum := by
  induction h with
  | nil => rfl
  | cons x _ ih => rw [List.sum_cons, List.sum_cons, ih]
  | swap x y l =>
    rw [List.sum_cons, List.sum_cons, List.sum_cons, List.sum_cons]
    omega
  | trans _ _ h1 h2 => exact h1.trans h2
theorem g_count {ns : List Int} {k : Int} : gCount (.list (ns.map .int)) [.int k] = some (.dat (.int (ns.count k : Nat))) := by simp only [gCount, ints_map, Option.map_some]
/-- a list comprehension with an if, over whole numbers -/
theorem lc_filt {g : MG} {t : MT} {m : ME} {vs : List Nat} (p : Int → Bool) (f : Int → Int) (e : Sl) : ∀ (ns acc : List Int), (∀ z ∈ ns, ∃ e1 e2, g (.int z) e = some e1 ∧ t e1 = some (p z, e2) ∧ (p z = true → ∃ e3, mFrz m e2 = some (.dat (.int (f z)), e3) ∧ wipeS e3 vs = e) ∧ (p z = false → wipeS e2 vs = e)) → lcL g t m vs (ns.map .int) e (acc.map .int) = some ((acc ++ (ns.filter p).map f).map .int, e)
  | [], acc, _ => by simp [lcL]
  | z :: ns, acc, h => by
    obtain ⟨e1, e2, h1, h2, h3, h4⟩ := h z List.mem_cons_self
    have ih := fun acc => lc_filt p f e ns acc (fun y hy => h y (List.mem_cons_of_mem _ hy))
    show lcL g t m vs (PyData.int z :: ns.map .int) e (acc.map .int) = _
    cases hp : p z with
    | true =>
      obtain ⟨e3, h5, h6⟩ := h3 hp
      simp only [lcL, h1, h2, hp, Option.bind_some, if_true, h5, h6]
      have := ih (acc ++ [f z])
      rw [List.map_append] at this
      rw [List.filter_cons_of_pos hp, List.map_cons]
      simpa using this
    | false =>
      simp only [lcL, h1, h2, hp, Option.bind_some, h4 hp]
      rw [List.filter_cons_of_neg (by rw [hp]; decide)]
      simpa using ih acc
end
theorem Rw.div {l : List Int} {s : Int} {n : Nat} (h : Rw l s n) : (∀ x ∈ l, ∃ t, s = x * t) ∧ (∀ x ∈ l, ∀ y ∈ l, x ≤ y → ∃ t, y = x * t) ∧ l.Nodup := by
  induction h with
  | one h1 h2 =>
    refine ⟨fun x hx => ⟨1, ?_⟩, fun x hx y hy _ => ⟨1, ?_⟩, ?_⟩
    · rw [List.mem_singleton] at hx
      omega
    · rw [List.mem_singleton] at hx hy
      omega
    · simp
  | @more l s t n h0 h1 h2 ih =>
    obtain ⟨i1, i2, i3⟩ := ih
    have hb := h0.big.1
    have hgt : s < s * t := by
      have : s * 2 ≤ s * t := Int.mul_le_mul_of_nonneg_left h1 (by omega)
      omega
    refine ⟨fun x hx => ?_, fun x hx y hy hxy => ?_, ?_⟩
    · rcases List.mem_append.mp hx with hx | hx
      · obtain ⟨u, hu⟩ := i1 x hx
        exact ⟨u * t, by rw [← Int.mul_assoc, ← hu]⟩
      · rw [List.mem_singleton] at hx
        exact ⟨1, by omega⟩
    · rcases List.mem_append.mp hx with hx | hx <;> rcases List.mem_append.mp hy with hy | hy
      · exact i2 x hx y hy hxy
      · rw [List.mem_singleton] at hy
        obtain ⟨u, hu⟩ := i1 x hx
        exact ⟨u * t, by rw [hy, ← Int.mul_assoc, ← hu]⟩
      · rw [List.mem_singleton] at hx
        have := (h0.mem y hy).2
        omega
      · rw [List.mem_singleton] at hx hy
        exact ⟨1, by omega⟩
    · rw [List.nodup_append]
      refine ⟨i3, by simp, fun a ha b hb2 => ?_⟩
      rw [List.mem_singleton] at hb2
      have := (h0.mem a ha).2
      omega
end Cm
/-! ### the text by places: law_k05_sacks_of_an_amount -/
namespace Lw
open PySem L2 Cm
def topS (i : Nat) : Stmt := PySem.Challenge.pw_campcarry_k05_sacks_of_an_amount.main.body.getD i (.Pass ⟨0, 0, 0, 0⟩)
abbrev s_parcels_of : Stmt := topS 1
theorem sc_parcels_of : FnScope ["sizes", "amount", "left", "found", "size"] ["sizes", "amount"] (defScope s_parcels_of) := ⟨rfl, rfl, rfl, by decide +kernel, rfl, by decide +kernel, by decide +kernel⟩
abbrev s_w_box : Stmt := topS 3
theorem sc_w_box : FnScope ["_law_script", "_law_k", "_law_cell"] ["_law_script", "_law_k"] (defScope s_w_box) := ⟨rfl, rfl, rfl, by decide +kernel, rfl, by decide +kernel, by decide +kernel⟩
abbrev s_w_take : Stmt := topS 4
theorem sc_w_take : FnScope ["_law_box_here", "_law_many", "_law_step", "_law_once", "_law_twice", "_law_found"] ["_law_box_here", "_law_many"] (defScope s_w_take) := ⟨rfl, rfl, rfl, by decide +kernel, rfl, by decide +kernel, by decide +kernel⟩
abbrev s_w_folded : Stmt := topS 5
theorem sc_w_folded : FnScope ["_law_script", "_law_size", "_law_cells", "_law_k", "_law_cell"] ["_law_script", "_law_size"] (defScope s_w_folded) := ⟨rfl, rfl, rfl, by decide +kernel, rfl, by decide +kernel, by decide +kernel⟩
abbrev s_w_wide : Stmt := topS 6
theorem sc_w_wide : FnScope ["_law_box_here", "_law_many", "_law_found", "_law_turn"] ["_law_box_here", "_law_many"] (defScope s_w_wide) := ⟨rfl, rfl, rfl, by decide +kernel, rfl, by decide +kernel, by decide +kernel⟩
abbrev s_w_same : Stmt := topS 7
theorem sc_w_same : FnScope ["_law_found", "_law_due_here", "_law_one", "_law_other"] ["_law_found", "_law_due_here"] (defScope s_w_same) := ⟨rfl, rfl, rfl, by decide +kernel, rfl, by decide +kernel, by decide +kernel⟩
abbrev s_w_sizes : Stmt := topS 8
theorem sc_w_sizes : FnScope ["_law_box_here", "_law_found", "_law_turn"] ["_law_box_here"] (defScope s_w_sizes) := ⟨rfl, rfl, rfl, by decide +kernel, rfl, by decide +kernel, by decide +kernel⟩
abbrev s_w_row : Stmt := topS 9
theorem sc_w_row : FnScope ["_law_box_here"] ["_law_box_here"] (defScope s_w_row) := ⟨rfl, rfl, rfl, by decide +kernel, rfl, by decide +kernel, by decide +kernel⟩
abbrev s_w_amount : Stmt := topS 10
theorem sc_w_amount : FnScope ["_law_box_here", "_law_sizes_here", "_law_size", "_law_way", "_law_near"] ["_law_box_here", "_law_sizes_here"] (defScope s_w_amount) := ⟨rfl, rfl, rfl, by decide +kernel, rfl, by decide +kernel, by decide +kernel⟩
abbrev s_w_due : Stmt := topS 11
theorem sc_w_due : FnScope ["_law_sizes_here", "_law_amount_here", "_law_left", "_law_found", "_law_size", "_law_other", "_law_times"] ["_law_sizes_here", "_law_amount_here"] (defScope s_w_due) := ⟨rfl, rfl, rfl, by decide +kernel, rfl, by decide +kernel, by decide +kernel⟩
abbrev s_w_right : Stmt := topS 12
theorem sc_w_right : FnScope ["_law_box_here", "_law_sizes_here", "_law_kept", "_law_turn", "_law_amount_here", "_law_due_here", "_law_again", "_law_found"] ["_law_box_here"] (defScope s_w_right) := ⟨rfl, rfl, rfl, by decide +kernel, rfl, by decide +kernel, by decide +kernel⟩
abbrev s_law : Stmt := topS 13
theorem sc_law : FnScope ["_law_script", "_law_cells", "_law_k"] ["_law_script"] (defScope s_law) := ⟨rfl, rfl, rfl, by decide +kernel, rfl, by decide +kernel, by decide +kernel⟩
abbrev FnP (K : PySem.W.Frag) (x : Str) (st : Stmt) (f : Addr) (fd : FuncData) : Prop := FunD K x x (defArgs st) (defBody st) (defScope st) [] [] f fd
structure Tx (K : PySem.W.Frag) (mg : Str → Option Value) (fd : Nat → FuncData) : Prop where
  F_parcels_of : FnP K "parcels_of" s_parcels_of (He.ga K "parcels_of") (fd 0)
  g_parcels_of : mg "parcels_of" = some (.ref (He.ga K "parcels_of"))
  F_w_box : FnP K "_law_box" s_w_box (He.ga K "_law_box") (fd 1)
  g_w_box : mg "_law_box" = some (.ref (He.ga K "_law_box"))
  F_w_take : FnP K "_law_take" s_w_take (He.ga K "_law_take") (fd 2)
  g_w_take : mg "_law_take" = some (.ref (He.ga K "_law_take"))
  F_w_folded : FnP K "_law_folded" s_w_folded (He.ga K "_law_folded") (fd 3)
  g_w_folded : mg "_law_folded" = some (.ref (He.ga K "_law_folded"))
  F_w_wide : FnP K "_law_wide" s_w_wide (He.ga K "_law_wide") (fd 4)
  g_w_wide : mg "_law_wide" = some (.ref (He.ga K "_law_wide"))
  F_w_same : FnP K "_law_same" s_w_same (He.ga K "_law_same") (fd 5)
  g_w_same : mg "_law_same" = some (.ref (He.ga K "_law_same"))
  F_w_sizes : FnP K "_law_sizes" s_w_sizes (He.ga K "_law_sizes") (fd 6)
  g_w_sizes : mg "_law_sizes" = some (.ref (He.ga K "_law_sizes"))
  F_w_row : FnP K "_law_row" s_w_row (He.ga K "_law_row") (fd 7)
  g_w_row : mg "_law_row" = some (.ref (He.ga K "_law_row"))
  F_w_amount : FnP K "_law_amount" s_w_amount (He.ga K "_law_amount") (fd 8)
  g_w_amount : mg "_law_amount" = some (.ref (He.ga K "_law_amount"))
  F_w_due : FnP K "_law_due" s_w_due (He.ga K "_law_due") (fd 9)
  g_w_due : mg "_law_due" = some (.ref (He.ga K "_law_due"))
  F_w_right : FnP K "_law_right" s_w_right (He.ga K "_law_right") (fd 10)
  g_w_right : mg "_law_right" = some (.ref (He.ga K "_law_right"))
  F_law : FnP K "law" s_law (He.ga K "law") (fd 11)
  g_law : mg "law" = some (.ref (He.ga K "law"))
  b_abs : mg "abs" = none
  b_all : mg "all" = none
  b_bool : mg "bool" = none
  b_enumerate : mg "enumerate" = none
  b_int : mg "int" = none
  b_isinstance : mg "isinstance" = none
  b_len : mg "len" = none
  b_list : mg "list" = none
  b_max : mg "max" = none
  b_min : mg "min" = none
  b_range : mg "range" = none
  b_reversed : mg "reversed" = none
  b_sorted : mg "sorted" = none
  b_str : mg "str" = none
  b_sum : mg "sum" = none
  b_tuple : mg "tuple" = none
  b_zip : mg "zip" = none
section
variable {P : Program} {w : World} {K : PySem.W.Frag} {mg : Str → Option Value} {base : Heap} {fd : Nat → FuncData}
theorem bi_parcels_of (T : Tx K mg fd) : Binds K (fd 0) ["sizes", "amount"] [] := T.F_parcels_of.bindsN fun _ _ _ _ _ _ us hl => match us, hl with | [_, _], _ => rfl
def m_parcels_of_b1 : MS := (mSeq (mDrop (mMut 3 fExt (mCons (mFrz (mOp gMul (mLst (mCons (mFrz (mName 4)) mNil)) (mOp gDiv (mName 2) (mName 4)))) mNil)))
    (mSet 2 (mOp gMod (mName 2) (mName 4))))
def m_parcels_of : MS := (mSeq (mSet 2 (mOp gAdd (mName 1) (mOp gMod (mUn gNeg (mName 1)) (mOp gIx (mName 0) (mC (.int 0))))))
    (mSeq (mSet 3 (mLst mNil))
    (mSeq (mFor (mRev (mCons (mFrz (mName 0)) mNil)) (mgName 4) m_parcels_of_b1)
    (mRet (mName 3)))))
def fm_parcels_of : FM := fmOf 2 5 m_parcels_of
theorem ok_parcels_of (T : Tx K mg fd) : FnOk P w K mg base CX0 1 (He.ga K "parcels_of") (fd 0) ["sizes", "amount"] (spF K fm_parcels_of) :=
  fn_ok T.F_parcels_of sc_parcels_of fun cdv A outer s H E hr => (show VSs _ _ m_parcels_of from (vs_cons (vs_set (i := 2) sc_parcels_of.nd (ve_op or_add od_add (ve_name 1) (ve_op op_mod od_mod (ve_un un_neg ud_neg (ve_name 1)) (ve_ix ix_seq od_ix (ve_name 0) ve_int (fun _ _ => rfl)))))
      (vs_cons (vs_set (i := 3) sc_parcels_of.nd (ve_lst va_nil))
      (vs_cons (vs_for PassesOwn.never (vi_rev T.b_reversed (va_cons (ve_frz (ve_name 0)) va_nil)) (vg_name (j := 4) sc_parcels_of.nd) (vs_cons (vs_expr (ve_mut (i := 3) PySem.F.slot_list_extend PySem.F.type_list_extend mt_extend md_extend (va_cons (ve_frz (ve_op or_mul od_mul (ve_lst (va_cons (ve_frz (ve_name 4)) va_nil)) (ve_op op_fdiv od_div (ve_name 2) (ve_name 4)))) va_nil)))
      (vs_one (vs_set (i := 2) sc_parcels_of.nd (ve_op op_mod od_mod (ve_name 2) (ve_name 4))))))
      (vs_one (vs_ret (ve_name 3)))))))
theorem bi_w_box (T : Tx K mg fd) : Binds K (fd 1) ["_law_script", "_law_k"] [] := T.F_w_box.bindsN fun _ _ _ _ _ _ us hl => match us, hl with | [_, _], _ => rfl
def m_w_box : MS := (mSeq (mSet 2 (mIf (mTest (mOp (gCmp fun i j => decide (i < j)) (mName 1) (mCB gLen (mCons (mName 0) mNil)))) (mOp gIx (mName 0) (mName 1)) (mC (.int 0))))
    (mRet (mLst (mCons (mFrz (mOp gMul (mCB (gInt1 fun i => if i < 0 then -i else i) (mCons (mName 2) mNil)) (mCB gInt (mCons (mOp (gCmp fun i j => decide (j ≤ i)) (mCB (gInt1 fun i => if i < 0 then -i else i) (mCons (mName 2) mNil)) (mOp gPow (mC (.int 10)) (mC (.int 18)))) mNil)))) (mCons (mFrz (mOp gAdd (mOp gAdd (mOp gMul (mOp gMod (mName 2) (mC (.int 2147483629))) (mC (.int 48271))) (mOp gMul (mC (.int 15485863)) (mName 1))) (mC (.int 37)))) (mCons (mFrz (mC (.int 0))) mNil))))))
def fm_w_box : FM := fmOf 2 3 m_w_box
theorem ok_w_box (T : Tx K mg fd) : FnOk P w K mg base CX0 1 (He.ga K "_law_box") (fd 1) ["_law_script", "_law_k"] (spF K fm_w_box) :=
  fn_ok T.F_w_box sc_w_box fun cdv A outer s H E hr => (show VSs _ _ m_w_box from (vs_cons (vs_set (i := 2) sc_w_box.nd (ve_if (vt_cmp op_lt (od_cmp (p := fun i j => decide (i < j))) (ve_name 1) (ve_callB call_len cd_len (by rfl) T.b_len PySem.boot_len (va_cons (ve_name 0) va_nil)) (nomark _)) (ve_ix ix_seq od_ix (ve_name 0) (ve_name 1) (fun _ _ => rfl)) ve_int))
      (vs_one (vs_ret (ve_lst (va_cons (ve_frz (ve_op or_mul od_mul (ve_callB call_abs (cd_int1 (f := fun i => if i < 0 then -i else i)) (by rfl) T.b_abs (by decide +kernel) (va_cons (ve_name 2) va_nil)) (ve_callTy call_int1 cd_int (by rfl) T.b_int (by decide +kernel) (va_cons (ve_cmp op_ge (od_cmp (p := fun i j => decide (j ≤ i))) (ve_callB call_abs (cd_int1 (f := fun i => if i < 0 then -i else i)) (by rfl) T.b_abs (by decide +kernel) (va_cons (ve_name 2) va_nil)) (ve_op op_pow od_pow ve_int ve_int) (nomark _)) va_nil)))) (va_cons (ve_frz (ve_op or_add od_add (ve_op or_add od_add (ve_op or_mul od_mul (ve_op op_mod od_mod (ve_name 2) ve_int) ve_int) (ve_op or_mul od_mul ve_int (ve_name 1))) ve_int)) (va_cons (ve_frz ve_int) va_nil))))))))
theorem bi_w_take (T : Tx K mg fd) : Binds K (fd 2) ["_law_box_here", "_law_many"] [] := T.F_w_take.bindsN fun _ _ _ _ _ _ us hl => match us, hl with | [_, _], _ => rfl
def m_w_take : MS := (mSeq (mIfS (mTest (mOp (gCmp fun i j => decide (j < i)) (mOp gIx (mName 0) (mC (.int 0))) (mC (.int 0)))) (mSeq (mSet 5 (mOp gMod (mOp gIx (mName 0) (mC (.int 0))) (mName 1)))
    (mSeq (mAsg (mOp gDiv (mOp gIx (mName 0) (mC (.int 0))) (mName 1)) (mgSub 0 (mC (.int 0))))
    (mRet (mName 5)))) mSkip)
    (mSeq (mAsg (mOp gAdd (mOp gIx (mName 0) (mC (.int 2))) (mC (.int 1))) (mgSub 0 (mC (.int 2))))
    (mSeq (mSet 2 (mOp gAdd (mC (.int 69621)) (mOp gMul (mOp gIx (mName 0) (mC (.int 2))) (mOp gIx (mName 0) (mC (.int 2))))))
    (mSeq (mSet 3 (mOp gMod (mOp gMul (mOp gAdd (mOp gIx (mName 0) (mC (.int 1))) (mOp gMul (mC (.int 39373)) (mOp gIx (mName 0) (mC (.int 2))))) (mName 2)) (mC (.int 2147483587))))
    (mSeq (mSet 4 (mOp gMod (mOp gAdd (mOp gMul (mName 3) (mOp gAdd (mOp gMod (mName 3) (mC (.int 30011))) (mC (.int 5)))) (mOp gIx (mName 0) (mC (.int 2)))) (mC (.int 2147483563))))
    (mRet (mOp gMod (mOp gDiv (mOp gMod (mOp gMul (mName 4) (mOp gAdd (mOp gMod (mName 4) (mC (.int 1013))) (mC (.int 3)))) (mC (.int 998244353))) (mC (.int 16))) (mName 1))))))))
def fm_w_take : FM := fmOf 2 6 m_w_take
theorem ok_w_take (T : Tx K mg fd) : FnOk P w K mg base CX0 1 (He.ga K "_law_take") (fd 2) ["_law_box_here", "_law_many"] (spF K fm_w_take) :=
  fn_ok T.F_w_take sc_w_take fun cdv A outer s H E hr => (show VSs _ _ m_w_take from (vs_cons (vs_if (vt_cmp op_gt (od_cmp (p := fun i j => decide (j < i))) (ve_ix ix_seq od_ix (ve_name 0) ve_int (fun _ _ => rfl)) ve_int (nomark _)) (vs_cons (vs_set (i := 5) sc_w_take.nd (ve_op op_mod od_mod (ve_ix ix_seq od_ix (ve_name 0) ve_int (fun _ _ => rfl)) (ve_name 1)))
      (vs_cons (vs_asg (ve_op op_fdiv od_div (ve_ix ix_seq od_ix (ve_name 0) ve_int (fun _ _ => rfl)) (ve_name 1)) (vg_sub (i := 0) ve_int))
      (vs_one (vs_ret (ve_name 5))))) vs_nil)
      (vs_cons (vs_asg (ve_op or_add od_add (ve_ix ix_seq od_ix (ve_name 0) ve_int (fun _ _ => rfl)) ve_int) (vg_sub (i := 0) ve_int))
      (vs_cons (vs_set (i := 2) sc_w_take.nd (ve_op or_add od_add ve_int (ve_op or_mul od_mul (ve_ix ix_seq od_ix (ve_name 0) ve_int (fun _ _ => rfl)) (ve_ix ix_seq od_ix (ve_name 0) ve_int (fun _ _ => rfl)))))
      (vs_cons (vs_set (i := 3) sc_w_take.nd (ve_op op_mod od_mod (ve_op or_mul od_mul (ve_op or_add od_add (ve_ix ix_seq od_ix (ve_name 0) ve_int (fun _ _ => rfl)) (ve_op or_mul od_mul ve_int (ve_ix ix_seq od_ix (ve_name 0) ve_int (fun _ _ => rfl)))) (ve_name 2)) ve_int))
      (vs_cons (vs_set (i := 4) sc_w_take.nd (ve_op op_mod od_mod (ve_op or_add od_add (ve_op or_mul od_mul (ve_name 3) (ve_op or_add od_add (ve_op op_mod od_mod (ve_name 3) ve_int) ve_int)) (ve_ix ix_seq od_ix (ve_name 0) ve_int (fun _ _ => rfl))) ve_int))
      (vs_one (vs_ret (ve_op op_mod od_mod (ve_op op_fdiv od_div (ve_op op_mod od_mod (ve_op or_mul od_mul (ve_name 4) (ve_op or_add od_add (ve_op op_mod od_mod (ve_name 4) ve_int) ve_int)) ve_int) ve_int) (ve_name 1))))))))))
theorem bi_w_folded (T : Tx K mg fd) : Binds K (fd 3) ["_law_script", "_law_size"] [] := T.F_w_folded.bindsN fun _ _ _ _ _ _ us hl => match us, hl with | [_, _], _ => rfl
def m_w_folded_b1 : MS := (mAsg (mOp gAdd (mOp gIx (mName 2) (mOp gMod (mName 3) (mName 1))) (mOp gMul (mName 4) (mOp gAdd (mName 3) (mC (.int 2))))) (mgSub 2 (mOp gMod (mName 3) (mName 1))))
def m_w_folded : MS := (mSeq (mSet 2 (mCB gList (mCons (mSlScr 0 mNoPart (mPart (mName 1))) mNil)))
    (mSeq (mFor (mEnum (mCons (mFrz (mSlScr 0 (mPart (mName 1)) (mPart (mC (.int 63))))) mNil)) (mgTup (mgCons (mgName 3) (mgCons (mgName 4) mgNil))) m_w_folded_b1)
    (mRet (mName 2))))
def fm_w_folded : FM := fmOf 2 5 m_w_folded
theorem ok_w_folded (T : Tx K mg fd) : FnOk P w K mg base CX0 1 (He.ga K "_law_folded") (fd 3) ["_law_script", "_law_size"] (spF K fm_w_folded) :=
  fn_ok T.F_w_folded sc_w_folded fun cdv A outer s H E hr => (show VSs _ _ m_w_folded from (vs_cons (vs_set (i := 2) sc_w_folded.nd (ve_callTy call_list_of cd_list (by rfl) T.b_list (by decide +kernel) (va_cons (ve_sliceScr 0 vo_none (vo_some (ve_name 1))) va_nil)))
      (vs_cons (vs_for PassesOwn.never (vi_enum T.b_enumerate (va_cons (ve_frz (ve_sliceScr 0 (vo_some (ve_name 1)) (vo_some ve_int))) va_nil)) (vg_tup (vgs_cons (vg_name (j := 3) sc_w_folded.nd) (vgs_cons (vg_name (j := 4) sc_w_folded.nd) vgs_nil)) (mgcons_len (mgcons_len mgnil_len))) (vs_one (vs_asg (ve_op or_add od_add (ve_ix ix_seq od_ix (ve_name 2) (ve_op op_mod od_mod (ve_name 3) (ve_name 1)) (fun _ _ => rfl)) (ve_op or_mul od_mul (ve_name 4) (ve_op or_add od_add (ve_name 3) ve_int))) (vg_sub (i := 2) (ve_op op_mod od_mod (ve_name 3) (ve_name 1))))))
      (vs_one (vs_ret (ve_name 2))))))
theorem bi_w_wide (T : Tx K mg fd) : Binds K (fd 4) ["_law_box_here", "_law_many"] [] := T.F_w_wide.bindsN fun _ _ _ _ _ _ us hl => match us, hl with | [_, _], _ => rfl
def m_w_wide_b1 : MS := (mSet 2 (mOp gAdd (mOp gMul (mName 2) (mOp gPow (mC (.int 10)) (mC (.int 9)))) (mCallF fm_w_take (some 0) (mCons (mName 0) (mCons (mOp gPow (mC (.int 10)) (mC (.int 9))) mNil)))))
def m_w_wide : MS := (mSeq (mSet 2 (mC (.int 0)))
    (mSeq (mFor (mRange1 (mCons (mC (.int 4)) mNil)) (mgName 3) m_w_wide_b1)
    (mRet (mOp gMod (mName 2) (mName 1)))))
def fm_w_wide : FM := fmOf 2 4 m_w_wide
theorem ok_w_wide (T : Tx K mg fd) : FnOk P w K mg base CX0 2 (He.ga K "_law_wide") (fd 4) ["_law_box_here", "_law_many"] (spF K fm_w_wide) :=
  fn_ok T.F_w_wide sc_w_wide fun cdv A outer s H E hr => (show VSs _ _ m_w_wide from (vs_cons (vs_set (i := 2) sc_w_wide.nd ve_int)
      (vs_cons (vs_for PassesOwn.never (vi_range1 T.b_range (va_cons ve_int va_nil)) (vg_name (j := 3) sc_w_wide.nd) (vs_one (vs_set (i := 2) sc_w_wide.nd (ve_op or_add od_add (ve_op or_mul od_mul (ve_name 2) (ve_op op_pow od_pow ve_int ve_int)) (ve_callF (some 0) (FnOk.mono (ok_w_take T) (by decide)) hr T.g_w_take T.F_w_take.kp (bi_w_take T) (va_cons (ve_name 0) (va_cons (ve_op op_pow od_pow ve_int ve_int) va_nil)))))))
      (vs_one (vs_ret (ve_op op_mod od_mod (ve_name 2) (ve_name 1)))))))
theorem bi_w_same (T : Tx K mg fd) : Binds K (fd 5) ["_law_found", "_law_due_here"] [] := T.F_w_same.bindsN fun _ _ _ _ _ _ us hl => match us, hl with | [_, _], _ => rfl
def m_w_same_e1 (fm : FM) : ME := (mCallF fm none (mCons (mName 2) (mCons (mName 3) mNil)))
def m_w_same (fm : FM) : MS := (mSeq (mIfS (mTest (mIsi2 "list" "tuple" (mName 1))) (mSeq (mIfS (mOr (mTest (mOp (gEq true) (mIsi "list" (mName 0)) (mIsi "list" (mName 1)))) (mTest (mOp (gEq true) (mIsi "tuple" (mName 0)) (mIsi "tuple" (mName 1))))) (mRet (mC (.bool false))) mSkip)
    (mRet (mAndV (mOp (gEq false) (mCB gLen (mCons (mName 0) mNil)) (mCB gLen (mCons (mName 1) mNil))) (mCB gAll (mCons (mLc (mZip (mCons (mFrz (mName 0)) (mCons (mFrz (mName 1)) mNil))) (mgTup (mgCons (mgName 2) (mgCons (mgName 3) mgNil))) mYes (m_w_same_e1 fm) [2, 3]) mNil))))) mSkip)
    (mSeq (mIfS (mOr (mTest (mOp (gIsN false) (mName 1) (mC .none))) (mTest (mOp (gIsN false) (mName 0) (mC .none)))) (mRet (mAndV (mOp (gIsN false) (mName 1) (mC .none)) (mOp (gIsN false) (mName 0) (mC .none)))) mSkip)
    (mSeq (mIfS (mOr (mTest (mIsi "bool" (mName 1))) (mTest (mIsi "str" (mName 1)))) (mRet (mAndV (mOp (gEq false) (mIsi "bool" (mName 0)) (mIsi "bool" (mName 1))) (mOp (gEq false) (mName 0) (mName 1)))) mSkip)
    (mRet (mAndV (mIsi "int" (mName 0)) (mAndV (mNotV (mIsi "bool" (mName 0))) (mOp (gEq false) (mName 0) (mName 1))))))))
def fm_w_same : Nat → FM
  | 0 => fun _ => none
  | n + 1 => fmOf 2 4 (m_w_same (fm_w_same n))
theorem ok_w_same (T : Tx K mg fd) : ∀ n : Nat, FnOk P w K mg base CX0 (n + 1) (He.ga K "_law_same") (fd 5) ["_law_found", "_law_due_here"] (spF K (fm_w_same n))
  | 0 => ok_no
  | n + 1 => (FnOk.mono (fn_ok (k := n + 1) T.F_w_same sc_w_same fun cdv A outer s H E hr => (show VSs _ _ (m_w_same (fm_w_same n)) from (vs_cons (vs_if (vt_val (ve_isi2 (ve_name 1) T.b_isinstance T.b_list (by decide +kernel) T.b_tuple (by decide +kernel))) (vs_cons (vs_if (vt_w (vw_or (vt_cmp (or_ne hr.units) od_ne (ve_isi (ve_name 0) T.b_isinstance T.b_list (by decide +kernel)) (ve_isi (ve_name 1) T.b_isinstance T.b_list (by decide +kernel)) (nomark _)) (vw_or1 (vt_cmp (or_ne hr.units) od_ne (ve_isi (ve_name 0) T.b_isinstance T.b_tuple (by decide +kernel)) (ve_isi (ve_name 1) T.b_isinstance T.b_tuple (by decide +kernel)) (nomark _))))) (vs_one (vs_ret ve_bl)) vs_nil)
      (vs_one (vs_ret (ve_and (ve_cmp (or_eq hr.units) od_eq (ve_callB call_len cd_len (by rfl) T.b_len PySem.boot_len (va_cons (ve_name 0) va_nil)) (ve_callB call_len cd_len (by rfl) T.b_len PySem.boot_len (va_cons (ve_name 1) va_nil)) (nomark _)) (ve_one (ve_callB (cr_all rfl) cd_all (by rfl) T.b_all (by decide +kernel) (va_cons (ve_lc (own := [("_law_one", 2), ("_law_other", 3)]) sc_w_same.nd (vi_zip T.b_zip (va_cons (ve_frz (ve_name 0)) (va_cons (ve_frz (ve_name 1)) va_nil))) (blkOk_by (own := [("_law_one", 2), ("_law_other", 3)]) (N := ["_law_found", "_law_due_here", "_law_one", "_law_other"]) (sc := defScope s_w_same) (by decide +kernel)) (fun _ _ _ _ _ => (vg_tup (vgs_cons (vg_name (j := 2) sc_w_same.nd) (vgs_cons (vg_name (j := 3) sc_w_same.nd) vgs_nil)) (mgcons_len (mgcons_len mgnil_len)))) (fun _ _ _ _ _ => vts_nil) (fun _ _ _ _ _ => (ve_callF none (ok_w_same T n) hr T.g_w_same T.F_w_same.kp (bi_w_same T) (va_cons (ve_name 2) (va_cons (ve_name 3) va_nil)))) (by decide)) va_nil))))))) vs_nil)
      (vs_cons (vs_if (vt_w (vw_or (vt_cmp op_isN od_isN (ve_name 1) ve_non (nomark _)) (vw_or1 (vt_cmp op_isN od_isN (ve_name 0) ve_non (nomark _))))) (vs_one (vs_ret (ve_and (ve_cmp op_isN od_isN (ve_name 1) ve_non (nomark _)) (ve_one (ve_cmp op_isN od_isN (ve_name 0) ve_non (nomark _)))))) vs_nil)
      (vs_cons (vs_if (vt_w (vw_or (vt_val (ve_isi (ve_name 1) T.b_isinstance T.b_bool (by decide +kernel))) (vw_or1 (vt_val (ve_isi (ve_name 1) T.b_isinstance T.b_str (by decide +kernel)))))) (vs_one (vs_ret (ve_and (ve_cmp (or_eq hr.units) od_eq (ve_isi (ve_name 0) T.b_isinstance T.b_bool (by decide +kernel)) (ve_isi (ve_name 1) T.b_isinstance T.b_bool (by decide +kernel)) (nomark _)) (ve_one (ve_cmp (or_eq hr.units) od_eq (ve_name 0) (ve_name 1) (nomark _)))))) vs_nil)
      (vs_one (vs_ret (ve_and (ve_isi (ve_name 0) T.b_isinstance T.b_int (by decide +kernel)) (ve_and (ve_not (ve_isi (ve_name 0) T.b_isinstance T.b_bool (by decide +kernel))) (ve_one (ve_cmp (or_eq hr.units) od_eq (ve_name 0) (ve_name 1) (nomark _)))))))))))) (by omega))
theorem bi_w_sizes (T : Tx K mg fd) : Binds K (fd 6) ["_law_box_here"] [] := T.F_w_sizes.bindsN fun _ _ _ _ _ _ us hl => match us, hl with | [_], _ => rfl
def m_w_sizes_b1 : MS := (mDrop (mMut 1 fApp (mCons (mFrz (mOp gMul (mOp gIx (mName 1) (mUn gNeg (mC (.int 1)))) (mOp gIx (mLst (mCons (mFrz (mC (.int 2))) (mCons (mFrz (mC (.int 2))) (mCons (mFrz (mC (.int 3))) (mCons (mFrz (mOp gAdd (mC (.int 2)) (mCallF fm_w_take (some 0) (mCons (mName 0) (mCons (mC (.int 11)) mNil))))) mNil))))) (mCallF fm_w_take (some 0) (mCons (mName 0) (mCons (mC (.int 4)) mNil)))))) mNil)))
def m_w_sizes : MS := (mSeq (mSet 1 (mLst (mCons (mFrz (mOp gAdd (mC (.int 1)) (mCallF fm_w_take (some 0) (mCons (mName 0) (mCons (mOp gIx (mLst (mCons (mFrz (mC (.int 1))) (mCons (mFrz (mC (.int 7))) (mCons (mFrz (mC (.int 100))) mNil)))) (mCallF fm_w_take (some 0) (mCons (mName 0) (mCons (mC (.int 3)) mNil)))) mNil))))) mNil)))
    (mSeq (mFor (mRange1 (mCons (mCallF fm_w_take (some 0) (mCons (mName 0) (mCons (mC (.int 5)) mNil))) mNil)) (mgName 2) m_w_sizes_b1)
    (mRet (mName 1))))
def fm_w_sizes : FM := fmOf 1 3 m_w_sizes
theorem ok_w_sizes (T : Tx K mg fd) : FnOk P w K mg base CX0 2 (He.ga K "_law_sizes") (fd 6) ["_law_box_here"] (spF K fm_w_sizes) :=
  fn_ok T.F_w_sizes sc_w_sizes fun cdv A outer s H E hr => (show VSs _ _ m_w_sizes from (vs_cons (vs_set (i := 1) sc_w_sizes.nd (ve_lst (va_cons (ve_frz (ve_op or_add od_add ve_int (ve_callF (some 0) (FnOk.mono (ok_w_take T) (by decide)) hr T.g_w_take T.F_w_take.kp (bi_w_take T) (va_cons (ve_name 0) (va_cons (ve_ix ix_seq od_ix (ve_lst (va_cons (ve_frz ve_int) (va_cons (ve_frz ve_int) (va_cons (ve_frz ve_int) va_nil)))) (ve_callF (some 0) (FnOk.mono (ok_w_take T) (by decide)) hr T.g_w_take T.F_w_take.kp (bi_w_take T) (va_cons (ve_name 0) (va_cons ve_int va_nil))) (fun _ _ => rfl)) va_nil))))) va_nil)))
      (vs_cons (vs_for PassesOwn.never (vi_range1 T.b_range (va_cons (ve_callF (some 0) (FnOk.mono (ok_w_take T) (by decide)) hr T.g_w_take T.F_w_take.kp (bi_w_take T) (va_cons (ve_name 0) (va_cons ve_int va_nil))) va_nil)) (vg_name (j := 2) sc_w_sizes.nd) (vs_one (vs_expr (ve_mut (i := 1) PySem.F.slot_list_append PySem.F.type_list_append mt_append md_append (va_cons (ve_frz (ve_op or_mul od_mul (ve_ix ix_seq od_ix (ve_name 1) (ve_un un_neg ud_neg ve_int) (fun _ _ => rfl)) (ve_ix ix_seq od_ix (ve_lst (va_cons (ve_frz ve_int) (va_cons (ve_frz ve_int) (va_cons (ve_frz ve_int) (va_cons (ve_frz (ve_op or_add od_add ve_int (ve_callF (some 0) (FnOk.mono (ok_w_take T) (by decide)) hr T.g_w_take T.F_w_take.kp (bi_w_take T) (va_cons (ve_name 0) (va_cons ve_int va_nil))))) va_nil))))) (ve_callF (some 0) (FnOk.mono (ok_w_take T) (by decide)) hr T.g_w_take T.F_w_take.kp (bi_w_take T) (va_cons (ve_name 0) (va_cons ve_int va_nil))) (fun _ _ => rfl)))) va_nil)))))
      (vs_one (vs_ret (ve_name 1))))))
theorem bi_w_row (T : Tx K mg fd) : Binds K (fd 7) ["_law_box_here"] [] := T.F_w_row.bindsN fun _ _ _ _ _ _ us hl => match us, hl with | [_], _ => rfl
def m_w_row : MS := (mSeq (mIfS (mTest (mOp (gEq false) (mCallF fm_w_take (some 0) (mCons (mName 0) (mCons (mC (.int 6)) mNil))) (mC (.int 0)))) (mRet (mSl gSlL (mLst (mCons (mFrz (mC (.int 100))) (mCons (mFrz (mC (.int 1200))) (mCons (mFrz (mC (.int 14400))) (mCons (mFrz (mC (.int 172800))) (mCons (mFrz (mC (.int 2073600))) mNil)))))) mNoPart (mPart (mOp gAdd (mC (.int 1)) (mCallF fm_w_take (some 0) (mCons (mName 0) (mCons (mC (.int 5)) mNil))))))) mSkip)
    (mRet (mCallF fm_w_sizes (some 0) (mCons (mName 0) mNil))))
def fm_w_row : FM := fmOf 1 1 m_w_row
theorem ok_w_row (T : Tx K mg fd) : FnOk P w K mg base CX0 3 (He.ga K "_law_row") (fd 7) ["_law_box_here"] (spF K fm_w_row) :=
  fn_ok T.F_w_row sc_w_row fun cdv A outer s H E hr => (show VSs _ _ m_w_row from (vs_cons (vs_if (vt_cmp (or_eq hr.units) od_eq (ve_callF (some 0) (FnOk.mono (ok_w_take T) (by decide)) hr T.g_w_take T.F_w_take.kp (bi_w_take T) (va_cons (ve_name 0) (va_cons ve_int va_nil))) ve_int (nomark _)) (vs_one (vs_ret (ve_slice sl_list sd_list (ve_lst (va_cons (ve_frz ve_int) (va_cons (ve_frz ve_int) (va_cons (ve_frz ve_int) (va_cons (ve_frz ve_int) (va_cons (ve_frz ve_int) va_nil)))))) vo_none (vo_some (ve_op or_add od_add ve_int (ve_callF (some 0) (FnOk.mono (ok_w_take T) (by decide)) hr T.g_w_take T.F_w_take.kp (bi_w_take T) (va_cons (ve_name 0) (va_cons ve_int va_nil)))))))) vs_nil)
      (vs_one (vs_ret (ve_callF (some 0) (FnOk.mono (ok_w_sizes T) (by decide)) hr T.g_w_sizes T.F_w_sizes.kp (bi_w_sizes T) (va_cons (ve_name 0) va_nil))))))
theorem bi_w_amount (T : Tx K mg fd) : Binds K (fd 8) ["_law_box_here", "_law_sizes_here"] [] := T.F_w_amount.bindsN fun _ _ _ _ _ _ us hl => match us, hl with | [_, _], _ => rfl
def m_w_amount : MS := (mSeq (mPutU [2, 3] (mConsU (mOp gIx (mName 1) (mCallF fm_w_take (some 0) (mCons (mName 0) (mCons (mCB gLen (mCons (mName 1) mNil)) mNil)))) (mConsU (mCallF fm_w_take (some 0) (mCons (mName 0) (mCons (mC (.int 6)) mNil))) mNil)))
    (mSeq (mSet 4 (mOp gIx (mLst (mCons (mFrz (mC (.int 0))) (mCons (mFrz (mC (.int 1))) (mCons (mFrz (mUn gNeg (mC (.int 1)))) mNil)))) (mCallF fm_w_take (some 0) (mCons (mName 0) (mCons (mC (.int 3)) mNil)))))
    (mSeq (mIfS (mTest (mOp (gEq false) (mName 3) (mC (.int 0)))) (mRet (mOp gIx (mLst (mCons (mFrz (mC (.int 0))) (mCons (mFrz (mOp gMul (mC (.int 40)) (mOp gIx (mName 1) (mUn gNeg (mC (.int 1)))))) (mCons (mFrz (mC (.int 1))) mNil)))) (mCallF fm_w_take (some 0) (mCons (mName 0) (mCons (mC (.int 3)) mNil))))) mSkip)
    (mSeq (mIfS (mTest (mOp (gCmp fun i j => decide (i < j)) (mName 3) (mC (.int 3)))) (mRet (mCB (gInt2 fun i j => if j > i then j else i) (mCons (mC (.int 0)) (mCons (mCB (gInt2 fun i j => if j < i then j else i) (mCons (mOp gMul (mC (.int 40)) (mOp gIx (mName 1) (mUn gNeg (mC (.int 1))))) (mCons (mOp gAdd (mOp gMul (mName 2) (mCallF fm_w_take (some 0) (mCons (mName 0) (mCons (mC (.int 13)) mNil)))) (mName 4)) mNil))) mNil)))) mSkip)
    (mSeq (mIfS (mTest (mOp (gEq false) (mName 3) (mC (.int 3)))) (mRet (mCB (gInt2 fun i j => if j > i then j else i) (mCons (mC (.int 0)) (mCons (mOp gMinus (mOp gMul (mC (.int 40)) (mOp gIx (mName 1) (mUn gNeg (mC (.int 1))))) (mCallF fm_w_take (some 0) (mCons (mName 0) (mCons (mOp gAdd (mOp gIx (mName 1) (mUn gNeg (mC (.int 1)))) (mC (.int 1))) mNil)))) mNil)))) mSkip)
    (mRet (mCallF fm_w_wide (some 0) (mCons (mName 0) (mCons (mOp gAdd (mOp gMul (mC (.int 40)) (mOp gIx (mName 1) (mUn gNeg (mC (.int 1))))) (mC (.int 1))) mNil)))))))))
def fm_w_amount : FM := fmOf 2 5 m_w_amount
theorem ok_w_amount (T : Tx K mg fd) : FnOk P w K mg base CX0 3 (He.ga K "_law_amount") (fd 8) ["_law_box_here", "_law_sizes_here"] (spF K fm_w_amount) :=
  fn_ok T.F_w_amount sc_w_amount fun cdv A outer s H E hr => (show VSs _ _ m_w_amount from (vs_cons (vs_par (i := 2) (j := 3) sc_w_amount.nd (vau_cons (ve_ix ix_seq od_ix (ve_name 1) (ve_callF (some 0) (FnOk.mono (ok_w_take T) (by decide)) hr T.g_w_take T.F_w_take.kp (bi_w_take T) (va_cons (ve_name 0) (va_cons (ve_callB call_len cd_len (by rfl) T.b_len PySem.boot_len (va_cons (ve_name 1) va_nil)) va_nil))) (fun _ _ => rfl)) (vau_cons (ve_callF (some 0) (FnOk.mono (ok_w_take T) (by decide)) hr T.g_w_take T.F_w_take.kp (bi_w_take T) (va_cons (ve_name 0) (va_cons ve_int va_nil))) vau_nil)))
      (vs_cons (vs_set (i := 4) sc_w_amount.nd (ve_ix ix_seq od_ix (ve_lst (va_cons (ve_frz ve_int) (va_cons (ve_frz ve_int) (va_cons (ve_frz (ve_un un_neg ud_neg ve_int)) va_nil)))) (ve_callF (some 0) (FnOk.mono (ok_w_take T) (by decide)) hr T.g_w_take T.F_w_take.kp (bi_w_take T) (va_cons (ve_name 0) (va_cons ve_int va_nil))) (fun _ _ => rfl)))
      (vs_cons (vs_if (vt_cmp (or_eq hr.units) od_eq (ve_name 3) ve_int (nomark _)) (vs_one (vs_ret (ve_ix ix_seq od_ix (ve_lst (va_cons (ve_frz ve_int) (va_cons (ve_frz (ve_op or_mul od_mul ve_int (ve_ix ix_seq od_ix (ve_name 1) (ve_un un_neg ud_neg ve_int) (fun _ _ => rfl)))) (va_cons (ve_frz ve_int) va_nil)))) (ve_callF (some 0) (FnOk.mono (ok_w_take T) (by decide)) hr T.g_w_take T.F_w_take.kp (bi_w_take T) (va_cons (ve_name 0) (va_cons ve_int va_nil))) (fun _ _ => rfl)))) vs_nil)
      (vs_cons (vs_if (vt_cmp op_lt (od_cmp (p := fun i j => decide (i < j))) (ve_name 3) ve_int (nomark _)) (vs_one (vs_ret (ve_callB (call_max2 rfl) (cd_int2 (f := fun i j => if j > i then j else i)) (by rfl) T.b_max (by decide +kernel) (va_cons ve_int (va_cons (ve_callB (call_min2 rfl) (cd_int2 (f := fun i j => if j < i then j else i)) (by rfl) T.b_min (by decide +kernel) (va_cons (ve_op or_mul od_mul ve_int (ve_ix ix_seq od_ix (ve_name 1) (ve_un un_neg ud_neg ve_int) (fun _ _ => rfl))) (va_cons (ve_op or_add od_add (ve_op or_mul od_mul (ve_name 2) (ve_callF (some 0) (FnOk.mono (ok_w_take T) (by decide)) hr T.g_w_take T.F_w_take.kp (bi_w_take T) (va_cons (ve_name 0) (va_cons ve_int va_nil)))) (ve_name 4)) va_nil))) va_nil))))) vs_nil)
      (vs_cons (vs_if (vt_cmp (or_eq hr.units) od_eq (ve_name 3) ve_int (nomark _)) (vs_one (vs_ret (ve_callB (call_max2 rfl) (cd_int2 (f := fun i j => if j > i then j else i)) (by rfl) T.b_max (by decide +kernel) (va_cons ve_int (va_cons (ve_op op_sub od_sub (ve_op or_mul od_mul ve_int (ve_ix ix_seq od_ix (ve_name 1) (ve_un un_neg ud_neg ve_int) (fun _ _ => rfl))) (ve_callF (some 0) (FnOk.mono (ok_w_take T) (by decide)) hr T.g_w_take T.F_w_take.kp (bi_w_take T) (va_cons (ve_name 0) (va_cons (ve_op or_add od_add (ve_ix ix_seq od_ix (ve_name 1) (ve_un un_neg ud_neg ve_int) (fun _ _ => rfl)) ve_int) va_nil)))) va_nil))))) vs_nil)
      (vs_one (vs_ret (ve_callF (some 0) (FnOk.mono (ok_w_wide T) (by decide)) hr T.g_w_wide T.F_w_wide.kp (bi_w_wide T) (va_cons (ve_name 0) (va_cons (ve_op or_add od_add (ve_op or_mul od_mul ve_int (ve_ix ix_seq od_ix (ve_name 1) (ve_un un_neg ud_neg ve_int) (fun _ _ => rfl))) ve_int) va_nil)))))))))))
theorem bi_w_due (T : Tx K mg fd) : Binds K (fd 9) ["_law_sizes_here", "_law_amount_here"] [] := T.F_w_due.bindsN fun _ _ _ _ _ _ us hl => match us, hl with | [_, _], _ => rfl
def m_w_due_b1 : MS := (mSeq (mSet 6 (mOp gDiv (mName 5) (mName 4)))
    (mSeq (mSet 3 (mOp gAdd (mOp gMul (mLst (mCons (mFrz (mName 4)) mNil)) (mOp gMod (mName 2) (mName 6))) (mName 3)))
    (mSet 2 (mOp gDiv (mName 2) (mName 6)))))
def m_w_due : MS := (mSeq (mPutU [2, 3] (mConsU (mOp gDiv (mOp gMinus (mOp gAdd (mName 1) (mOp gIx (mName 0) (mC (.int 0)))) (mC (.int 1))) (mOp gIx (mName 0) (mC (.int 0)))) (mConsU (mLst mNil) mNil)))
    (mSeq (mFor (mZip (mCons (mFrz (mName 0)) (mCons (mFrz (mSl gSlL (mName 0) (mPart (mC (.int 1))) mNoPart)) mNil))) (mgTup (mgCons (mgName 4) (mgCons (mgName 5) mgNil))) m_w_due_b1)
    (mRet (mOp gAdd (mOp gMul (mLst (mCons (mFrz (mOp gIx (mName 0) (mUn gNeg (mC (.int 1))))) mNil)) (mName 2)) (mName 3)))))
def fm_w_due : FM := fmOf 2 7 m_w_due
theorem ok_w_due (T : Tx K mg fd) : FnOk P w K mg base CX0 1 (He.ga K "_law_due") (fd 9) ["_law_sizes_here", "_law_amount_here"] (spF K fm_w_due) :=
  fn_ok T.F_w_due sc_w_due fun cdv A outer s H E hr => (show VSs _ _ m_w_due from (vs_cons (vs_par (i := 2) (j := 3) sc_w_due.nd (vau_cons (ve_op op_fdiv od_div (ve_op op_sub od_sub (ve_op or_add od_add (ve_name 1) (ve_ix ix_seq od_ix (ve_name 0) ve_int (fun _ _ => rfl))) ve_int) (ve_ix ix_seq od_ix (ve_name 0) ve_int (fun _ _ => rfl))) (vau_cons (ve_lst va_nil) vau_nil)))
      (vs_cons (vs_for PassesOwn.never (vi_zip T.b_zip (va_cons (ve_frz (ve_name 0)) (va_cons (ve_frz (ve_slice sl_list sd_list (ve_name 0) (vo_some ve_int) vo_none)) va_nil))) (vg_tup (vgs_cons (vg_name (j := 4) sc_w_due.nd) (vgs_cons (vg_name (j := 5) sc_w_due.nd) vgs_nil)) (mgcons_len (mgcons_len mgnil_len))) (vs_cons (vs_set (i := 6) sc_w_due.nd (ve_op op_fdiv od_div (ve_name 5) (ve_name 4)))
      (vs_cons (vs_set (i := 3) sc_w_due.nd (ve_op or_add od_add (ve_op or_mul od_mul (ve_lst (va_cons (ve_frz (ve_name 4)) va_nil)) (ve_op op_mod od_mod (ve_name 2) (ve_name 6))) (ve_name 3)))
      (vs_one (vs_set (i := 2) sc_w_due.nd (ve_op op_fdiv od_div (ve_name 2) (ve_name 6)))))))
      (vs_one (vs_ret (ve_op or_add od_add (ve_op or_mul od_mul (ve_lst (va_cons (ve_frz (ve_ix ix_seq od_ix (ve_name 0) (ve_un un_neg ud_neg ve_int) (fun _ _ => rfl))) va_nil)) (ve_name 2)) (ve_name 3)))))))
theorem bi_w_right (T : Tx K mg fd) : Binds K (fd 10) ["_law_box_here"] [] := T.F_w_right.bindsN fun _ _ _ _ _ _ us hl => match us, hl with | [_], _ => rfl
def m_w_right_b1 : MS := (mSeq (mSet 7 (mCallF fm_parcels_of none (mCons (mName 1) (mCons (mName 4) mNil))))
    (mSeq (mIfS (mOr (mNot (mTest (mCallF (fm_w_same 4) none (mCons (mName 7) (mCons (mName 5) mNil))))) (mTest (mOp (gEq true) (mName 1) (mName 2)))) (mRet (mC (.bool false))) mSkip)
    (mSeq (mDrop (mMut 7 fApp (mCons (mFrz (mIf (mTest (mOp (gEq true) (mName 7) (mLst mNil))) (mOp gIx (mName 7) (mC (.int 0))) (mC (.int 1)))) mNil)))
    (mDrop (mMut 7 fRev mNil)))))
def m_w_right_b2 : MS := (mSeq (mSet 4 (mCallF fm_w_amount (some 0) (mCons (mName 0) (mCons (mName 2) mNil))))
    (mSeq (mSet 5 (mCallF fm_w_due none (mCons (mName 2) (mCons (mName 4) mNil))))
    (mSeq (mFor (mRange1 (mCons (mC (.int 2)) mNil)) (mgName 6) m_w_right_b1)
    (mIfS (mOr (mNot (mTest (mChain (gCmp fun i j => decide (i ≤ j)) (gCmp fun i j => decide (i < j)) (mC (.int 0)) (mOp gMinus (mCB gSum (mCons (mName 5) mNil)) (mName 4)) (mOp gIx (mName 2) (mC (.int 0)))))) (mTest (mOp (gEq true) (mName 5) (mRevL (mCB gSorted (mCons (mName 5) mNil)))))) (mRet (mC (.bool false))) mSkip))))
def m_w_right : MS := (mSeq (mSet 1 (mCallF fm_w_row (some 0) (mCons (mName 0) mNil)))
    (mSeq (mSet 2 (mCB gList (mCons (mName 1) mNil)))
    (mSeq (mFor (mRange1 (mCons (mC (.int 12)) mNil)) (mgName 3) m_w_right_b2)
    (mRet (mAndV (mOp (gEq false) (mCallF fm_parcels_of none (mCons (mName 1) (mCons (mC (.int 0)) mNil))) (mLst mNil)) (mOp (gEq false) (mCallF fm_parcels_of none (mCons (mName 1) (mCons (mOp gMul (mC (.int 40)) (mOp gIx (mName 2) (mUn gNeg (mC (.int 1))))) mNil))) (mOp gMul (mLst (mCons (mFrz (mOp gIx (mName 2) (mUn gNeg (mC (.int 1))))) mNil)) (mC (.int 40)))))))))
def fm_w_right : FM := fmOf 1 8 m_w_right
theorem ok_w_right (T : Tx K mg fd) : FnOk P w K mg base CX0 6 (He.ga K "_law_right") (fd 10) ["_law_box_here"] (spF K fm_w_right) :=
  fn_ok T.F_w_right sc_w_right fun cdv A outer s H E hr => (show VSs _ _ m_w_right from (vs_cons (vs_set (i := 1) sc_w_right.nd (ve_callF (some 0) (FnOk.mono (ok_w_row T) (by decide)) hr T.g_w_row T.F_w_row.kp (bi_w_row T) (va_cons (ve_name 0) va_nil)))
      (vs_cons (vs_set (i := 2) sc_w_right.nd (ve_callTy call_list_of cd_list (by rfl) T.b_list (by decide +kernel) (va_cons (ve_name 1) va_nil)))
      (vs_cons (vs_for PassesOwn.never (vi_range1 T.b_range (va_cons ve_int va_nil)) (vg_name (j := 3) sc_w_right.nd) (vs_cons (vs_set (i := 4) sc_w_right.nd (ve_callF (some 0) (FnOk.mono (ok_w_amount T) (by decide)) hr T.g_w_amount T.F_w_amount.kp (bi_w_amount T) (va_cons (ve_name 0) (va_cons (ve_name 2) va_nil))))
      (vs_cons (vs_set (i := 5) sc_w_right.nd (ve_callF none (FnOk.mono (ok_w_due T) (by decide)) hr T.g_w_due T.F_w_due.kp (bi_w_due T) (va_cons (ve_name 2) (va_cons (ve_name 4) va_nil))))
      (vs_cons (vs_for PassesOwn.never (vi_range1 T.b_range (va_cons ve_int va_nil)) (vg_name (j := 6) sc_w_right.nd) (vs_cons (vs_set (i := 7) sc_w_right.nd (ve_callF none (FnOk.mono (ok_parcels_of T) (by decide)) hr T.g_parcels_of T.F_parcels_of.kp (bi_parcels_of T) (va_cons (ve_name 1) (va_cons (ve_name 4) va_nil))))
      (vs_cons (vs_if (vt_w (vw_or (vt_not (vt_val (ve_callF none (FnOk.mono (ok_w_same T 4) (by decide)) hr T.g_w_same T.F_w_same.kp (bi_w_same T) (va_cons (ve_name 7) (va_cons (ve_name 5) va_nil))))) (vw_or1 (vt_cmp (or_ne hr.units) od_ne (ve_name 1) (ve_name 2) (nomark _))))) (vs_one (vs_ret ve_bl)) vs_nil)
      (vs_cons (vs_expr (ve_mut (i := 7) PySem.F.slot_list_append PySem.F.type_list_append mt_append md_append (va_cons (ve_frz (ve_if (vt_cmp (or_ne hr.units) od_ne (ve_name 7) (ve_lst va_nil) (nomark _)) (ve_ix ix_seq od_ix (ve_name 7) ve_int (fun _ _ => rfl)) ve_int)) va_nil)))
      (vs_one (vs_expr (ve_mut0 (i := 7) PySem.F.slot_list_reverse PySem.F.type_list_reverse mt_reverse md_reverse)))))))
      (vs_one (vs_if (vt_w (vw_or (vt_not (vt_chain op_le (od_cmp (p := fun i j => decide (i ≤ j))) op_lt (od_cmp (p := fun i j => decide (i < j))) ve_int (ve_op op_sub od_sub (ve_callB (cr_sum rfl) cd_sum (by rfl) T.b_sum (by decide +kernel) (va_cons (ve_name 5) va_nil)) (ve_name 4)) (ve_ix ix_seq od_ix (ve_name 2) ve_int (fun _ _ => rfl)))) (vw_or1 (vt_cmp (or_ne hr.units) od_ne (ve_name 5) (ve_rev (ve_callB cr_sortedI cd_sorted (by rfl) T.b_sorted (by decide +kernel) (va_cons (ve_name 5) va_nil))) (nomark _))))) (vs_one (vs_ret ve_bl)) vs_nil))))))
      (vs_one (vs_ret (ve_and (ve_cmp (or_eq hr.units) od_eq (ve_callF none (FnOk.mono (ok_parcels_of T) (by decide)) hr T.g_parcels_of T.F_parcels_of.kp (bi_parcels_of T) (va_cons (ve_name 1) (va_cons ve_int va_nil))) (ve_lst va_nil) (nomark _)) (ve_one (ve_cmp (or_eq hr.units) od_eq (ve_callF none (FnOk.mono (ok_parcels_of T) (by decide)) hr T.g_parcels_of T.F_parcels_of.kp (bi_parcels_of T) (va_cons (ve_name 1) (va_cons (ve_op or_mul od_mul ve_int (ve_ix ix_seq od_ix (ve_name 2) (ve_un un_neg ud_neg ve_int) (fun _ _ => rfl))) va_nil))) (ve_op or_mul od_mul (ve_lst (va_cons (ve_frz (ve_ix ix_seq od_ix (ve_name 2) (ve_un un_neg ud_neg ve_int) (fun _ _ => rfl))) va_nil)) ve_int) (nomark _))))))))))
theorem bi_law (T : Tx K mg fd) : Binds K (fd 11) ["_law_script"] [] := T.F_law.bindsN fun _ _ _ _ _ _ us hl => match us, hl with | [_], _ => rfl
def m_law_e1 : ME := (mCallN fm_w_right (mCallF fm_w_box none (mCons (mName 1) (mCons (mName 2) mNil))))
def m_law : MS := (mSeq (mSet 1 (mCallF fm_w_folded none (mCons (mName 0) (mCons (mC (.int 8)) mNil))))
    (mRet (mCB gAll (mCons (mLc (mRange1 (mCons (mCB (gInt2 fun i j => if j > i then j else i) (mCons (mC (.int 1)) (mCons (mCB gLen (mCons (mName 1) mNil)) mNil))) mNil)) (mgName 2) mYes m_law_e1 [2]) mNil))))
def fm_law : FM := fmOf 1 3 m_law
theorem ok_law (T : Tx K mg fd) : FnOk P w K mg base CX0 7 (He.ga K "law") (fd 11) ["_law_script"] (spF K fm_law) :=
  fn_ok T.F_law sc_law fun cdv A outer s H E hr => (show VSs _ _ m_law from (vs_cons (vs_set (i := 1) sc_law.nd (ve_callF none (FnOk.mono (ok_w_folded T) (by decide)) hr T.g_w_folded T.F_w_folded.kp (bi_w_folded T) (va_cons (ve_name 0) (va_cons ve_int va_nil))))
      (vs_one (vs_ret (ve_callB (cr_all rfl) cd_all (by rfl) T.b_all (by decide +kernel) (va_cons (ve_lc (own := [("_law_k", 2)]) sc_law.nd (vi_range1 T.b_range (va_cons (ve_callB (call_max2 rfl) (cd_int2 (f := fun i j => if j > i then j else i)) (by rfl) T.b_max (by decide +kernel) (va_cons ve_int (va_cons (ve_callB call_len cd_len (by rfl) T.b_len PySem.boot_len (va_cons (ve_name 1) va_nil)) va_nil))) va_nil)) (blkOk_by (own := [("_law_k", 2)]) (N := ["_law_script", "_law_cells", "_law_k"]) (sc := defScope s_law) (by decide +kernel)) (fun _ _ _ _ _ => (vg_name (j := 2) sc_law.nd)) (fun _ _ _ _ _ => vts_nil) (fun _ _ _ _ _ => (ve_callN (FnOk.mono (ok_w_right T) (by decide)) hr T.g_w_right T.F_w_right.kp (bi_w_right T) (ve_callF none (FnOk.mono (ok_w_box T) (by decide)) hr T.g_w_box T.F_w_box.kp (bi_w_box T) (va_cons (ve_name 1) (va_cons (ve_name 2) va_nil))))) (by decide)) va_nil))))))
end
end Lw
local macro_rules | `(tactic| walk_at "kt") => `(tactic| first | (with_reducible assumption) | exact Cm.kit_NoneType_bool | exact Cm.kit_NoneType_int | exact Cm.kit_NoneType_str | exact Cm.kit_NoneType_list | exact Cm.kit_NoneType_tuple | exact Cm.kit_bool_bool | exact Cm.kit_bool_int | exact Cm.kit_bool_str | exact Cm.kit_bool_list | exact Cm.kit_bool_tuple | exact Cm.kit_int_bool | exact Cm.kit_int_int | exact Cm.kit_int_str | exact Cm.kit_int_list | exact Cm.kit_int_tuple | exact Cm.kit_str_bool | exact Cm.kit_str_int | exact Cm.kit_str_str | exact Cm.kit_str_list | exact Cm.kit_str_tuple | exact Cm.kit_list_bool | exact Cm.kit_list_int | exact Cm.kit_list_str | exact Cm.kit_list_list | exact Cm.kit_list_tuple | exact Cm.kit_tuple_bool | exact Cm.kit_tuple_int | exact Cm.kit_tuple_str | exact Cm.kit_tuple_list | exact Cm.kit_tuple_tuple)
local macro_rules | `(tactic| walk_at "wp") => `(tactic| first | (with_reducible exact Cm.wipe_nil) | (apply Cm.wipe_cons; (walk_at "wp"); walk_at "st"))
local macro_rules | `(tactic| walk_at "da") => `(tactic| (repeat (apply Cm.dats_cons)); exact Cm.dats_nil)
local macro_rules | `(tactic| walk_at "rd") => `(tactic| first | exact Cm.rdv_dat | (apply Cm.rdv_val; exact rfl) | (apply Cm.rdv_own; exact rfl) | (apply Cm.rdv_io; exact rfl))
local macro_rules | `(tactic| walk_at "ra") => `(tactic| first | (with_reducible exact Cm.rd_nil) | (apply Cm.rd_cons; (walk_at "rd"); walk_at "ra"))
local macro_rules | `(tactic| walk_at "a1") => `(tactic| first | (apply Cm.a_dat; decide) | (apply Cm.a_ioI; exact rfl; exact rfl) | (apply Cm.a_ioO; exact rfl; exact rfl) | (apply Cm.a_val; decide; exact rfl) | (apply Cm.a_own; decide; exact rfl) | (apply Cm.a_io; decide; exact rfl) | (apply Cm.a_scr; decide; exact rfl))
local macro_rules | `(tactic| walk_at "ar") => `(tactic| first | (with_reducible exact Cm.av_nil) | (apply Cm.av_cons; (walk_at "a1"); walk_at "ar"))
local macro_rules | `(tactic| walk_at "bk") => `(tactic| first | exact Cm.b_none | (apply Cm.b_io; exact rfl; exact rfl; exact rfl; walk_at "st") | (apply Cm.b_own; exact rfl; exact rfl; exact rfl; walk_at "st"))
local macro_rules | `(tactic| walk_at "st") => `(tactic| (repeat (with_reducible apply Cm.set_succ)); exact Cm.set_zero)
local macro_rules | `(tactic| walk_at "in") => `(tactic| (repeat (with_reducible apply Cm.app_cons)); (apply Cm.app_nil); (repeat (apply Cm.rep_succ)); exact Cm.rep_zero)
local macro_rules | `(tactic| walk_at "tk") => `(tactic| (repeat (apply Cm.take_succ)); exact Cm.take_zero)
local macro_rules | `(tactic| walk_at "pp") => `(tactic| first | (with_reducible assumption) | (with_reducible exact rfl) | omega | (simp; done) | (simp [*]; done))
local macro_rules | `(tactic| walk_at "pq") => `(tactic| first | (with_reducible assumption) | (with_reducible exact rfl) | omega)
local macro_rules | `(tactic| walk_at "cq") => `(tactic| first
  | (with_reducible assumption) | (with_reducible exact rfl)
  | ((with_reducible apply Cm.cd_tx_f); walk_at "pq") | ((with_reducible apply Cm.cd_tx_t); walk_at "pq") | ((with_reducible apply Cm.cd_fx_t); walk_at "pq") | ((with_reducible apply Cm.cd_fx_f); walk_at "pq")
  | ((with_reducible apply Cm.cd_not_t); walk_at "cq") | ((with_reducible apply Cm.cd_not_f); walk_at "cq")
  | ((with_reducible apply decide_eq_true); walk_at "pq") | ((with_reducible apply decide_eq_false); walk_at "pq") | exact rfl)
local macro_rules | `(tactic| walk_at "cd") => `(tactic| first
  | (with_reducible assumption) | (with_reducible exact rfl)
  | ((with_reducible apply Cm.cd_tx_f); walk_at "pp") | ((with_reducible apply Cm.cd_tx_t); walk_at "pp") | ((with_reducible apply Cm.cd_fx_t); walk_at "pp") | ((with_reducible apply Cm.cd_fx_f); walk_at "pp")
  | ((with_reducible apply Cm.cd_not_t); walk_at "cd") | ((with_reducible apply Cm.cd_not_f); walk_at "cd")
  | ((with_reducible apply decide_eq_true); walk_at "pp") | ((with_reducible apply decide_eq_false); walk_at "pp") | exact rfl | (simp [*]; done))
local macro_rules | `(tactic| walk_at "sd") => `(tactic| first | (with_reducible assumption) | omega | decide | (simp; done) | (simp; omega) | (simp [*]; done))
local macro_rules | `(tactic| walk_at "lf") => `(tactic| first
  | (with_reducible assumption)
  | ((with_reducible apply Cm.g_div); walk_at "sd") | ((with_reducible apply Cm.g_mod); walk_at "sd") | (with_reducible exact Cm.g_mulB) | ((with_reducible apply Cm.g_mul); walk_at "sd") | ((with_reducible apply Cm.g_pow); walk_at "sd") | ((with_reducible apply Cm.g_repI); walk_at "sd") | ((with_reducible apply Cm.g_rep); walk_at "sd") | ((with_reducible apply Cm.g_cat); walk_at "sd")
  | (with_reducible exact Cm.g_add) | (with_reducible exact Cm.g_minus) | (with_reducible exact Cm.g_neg) | (with_reducible exact Cm.g_lt) | (with_reducible exact Cm.g_le) | (with_reducible exact Cm.g_gt) | (with_reducible exact Cm.g_ge) | (with_reducible exact Cm.g_abs) | (with_reducible exact Cm.g_max) | (with_reducible exact Cm.g_min) | (with_reducible exact Cm.g_lenI) | (with_reducible exact Cm.g_lenL) | (with_reducible exact Cm.g_listL) | (with_reducible exact Cm.g_listT)
  | (with_reducible exact Cm.g_eqI) | (with_reducible exact Cm.g_eqLI) | (with_reducible exact Cm.g_eqL0) | (with_reducible exact Cm.g_eq0L) | (with_reducible exact Cm.g_sum) | (with_reducible exact Cm.g_count) | (with_reducible exact Cm.g_sorted) | (with_reducible exact Cm.g_all)
  | ((with_reducible apply Cm.g_ixL); first | (with_reducible assumption) | exact rfl | (exact Cm.atI_last1)) | ((with_reducible apply Cm.g_ixT); first | (with_reducible assumption) | exact rfl)
  | ((with_reducible apply Cm.f_app); walk_at "sd") | ((with_reducible apply Cm.f_ext); walk_at "sd")
  
  | ((with_reducible apply Cm.sh_gInt); exact rfl)
  | ((with_reducible apply Cm.sh_gIsN); exact rfl)
  | ((with_reducible apply Cm.sh_gStr); exact rfl)
  | ((with_reducible apply Cm.sh_gSlL); exact rfl)
  | ((with_reducible apply Cm.sh_gLen); exact rfl)
  | ((with_reducible apply Cm.sh_gList); exact rfl)
  | ((with_reducible apply Cm.sh_gAll); exact rfl)
  | ((with_reducible apply Cm.sh_gAny); exact rfl)
  | ((with_reducible apply Cm.sh_gSum); exact rfl)
  | ((with_reducible apply Cm.sh_fRev); exact rfl)
  | ((with_reducible apply Cm.sh_fPopAt); exact rfl)
  | ((with_reducible apply Cm.sh_gAdd); exact rfl)
  | ((with_reducible apply Cm.g_eqN); exact rfl) | ((with_reducible apply Cm.sh_gEq); exact rfl))
local macro_rules | `(tactic| walk_at "stp") => `(tactic| first
  | (with_reducible assumption)
  | (with_reducible exact Cm.ev_c) | (with_reducible exact Cm.ev_skip) | (with_reducible exact Cm.ev_nil) | (with_reducible exact Cm.ev_yes) | (with_reducible exact Cm.ev_noPart) | (with_reducible exact Cm.ev_gnil) | (with_reducible exact Cm.puts_nil) | (with_reducible exact Cm.seq_rt) | (with_reducible exact Cm.frz_dat) | (with_reducible exact Cm.frz_new) | (with_reducible exact Cm.frzS_dat) | (with_reducible exact Cm.frzS_new) | (with_reducible exact Cm.stab_dat) | (with_reducible exact Cm.stab_new) | (with_reducible exact Cm.stab_slt)
  | ((with_reducible apply Cm.ev_nameV); exact rfl) | ((with_reducible apply Cm.ev_nameI); exact rfl) | ((with_reducible apply Cm.ev_nameO); exact rfl) | ((with_reducible apply Cm.ev_nameS); exact rfl)
  | (with_reducible apply Cm.ev_op) | (with_reducible apply Cm.ev_un) | (with_reducible apply Cm.ev_test) | (with_reducible apply Cm.ev_chain) | (with_reducible apply Cm.ev_and) | (with_reducible apply Cm.ev_or) | (with_reducible apply Cm.ev_not) | (with_reducible apply Cm.ev_andV) | (with_reducible apply Cm.ev_orV) | (with_reducible apply Cm.ev_notV) | (with_reducible apply Cm.ev_if) | (with_reducible apply Cm.ev_frz) | (with_reducible apply Cm.ev_frzS) | (with_reducible apply Cm.ev_cons) | (with_reducible apply Cm.ev_consU) | (with_reducible apply Cm.ev_lst) | (with_reducible apply Cm.ev_tup) | (with_reducible apply Cm.ev_cb) | (with_reducible apply Cm.ev_bm) | (with_reducible apply Cm.ev_isi) | (with_reducible apply Cm.ev_isi2) | (with_reducible apply Cm.ev_sl) | (with_reducible apply Cm.ev_part) | (with_reducible apply Cm.ev_lc) | (with_reducible apply Cm.ev_callF) | (with_reducible apply Cm.ev_callV) | (with_reducible apply Cm.ev_callN) | (with_reducible apply Cm.ev_revL) | (with_reducible apply Cm.ev_gtup) | (with_reducible apply Cm.ev_gcons) | (with_reducible apply Cm.ev_gname) | (with_reducible apply Cm.ev_itL) | (with_reducible apply Cm.ev_itT) | (with_reducible apply Cm.ev_enum) | (with_reducible apply Cm.ev_zip) | (with_reducible apply Cm.ev_rev) | (with_reducible apply Cm.ev_range1) | (with_reducible apply Cm.ev_range2) | (with_reducible apply Cm.ev_range3d) | (with_reducible apply Cm.ev_seq) | (with_reducible apply Cm.seq_nx) | (with_reducible apply Cm.ev_ifS) | (with_reducible apply Cm.ev_drop) | (with_reducible apply Cm.ev_ret) | (with_reducible apply Cm.ev_set) | (with_reducible apply Cm.ev_putU) | (with_reducible apply Cm.puts_cons) | (with_reducible apply Cm.ev_asg) | (with_reducible apply Cm.ev_for) | (with_reducible apply Cm.put_dat) | (with_reducible apply Cm.put_new)
  | ((with_reducible apply Cm.ev_slScr); exact rfl) | ((with_reducible apply Cm.ev_mutO); exact rfl) | ((with_reducible apply Cm.ev_mutI); exact rfl) | ((with_reducible apply Cm.ev_gsubO); exact rfl) | ((with_reducible apply Cm.ev_gsubI); exact rfl) | ((with_reducible apply Cm.ev_augAdd); exact rfl) | ((with_reducible apply Cm.ev_augI); exact rfl) | ((with_reducible apply Cm.frz_own); exact rfl) | ((with_reducible apply Cm.put_slt); exact rfl)
 
  | ((with_reducible apply Cm.chain_t); (walk_at "cq")) | ((with_reducible apply Cm.chain_f); (walk_at "cq")) | ((with_reducible apply Cm.and_t); (walk_at "cq")) | ((with_reducible apply Cm.and_f); (walk_at "cq")) | ((with_reducible apply Cm.or_f); (walk_at "cq")) | ((with_reducible apply Cm.or_t); (walk_at "cq")) | ((with_reducible apply Cm.andV_t); (walk_at "cq")) | ((with_reducible apply Cm.andV_f); (walk_at "cq")) | ((with_reducible apply Cm.orV_f); (walk_at "cq")) | ((with_reducible apply Cm.orV_t); (walk_at "cq")) | ((with_reducible apply Cm.ifK_t); (walk_at "cq")) | ((with_reducible apply Cm.ifK_f); (walk_at "cq")) | ((with_reducible apply Cm.chain_t); (walk_at "cd")) | ((with_reducible apply Cm.chain_f); (walk_at "cd")) | ((with_reducible apply Cm.and_t); (walk_at "cd")) | ((with_reducible apply Cm.and_f); (walk_at "cd")) | ((with_reducible apply Cm.or_f); (walk_at "cd")) | ((with_reducible apply Cm.or_t); (walk_at "cd")) | ((with_reducible apply Cm.andV_t); (walk_at "cd")) | ((with_reducible apply Cm.andV_f); (walk_at "cd")) | ((with_reducible apply Cm.orV_f); (walk_at "cd")) | ((with_reducible apply Cm.orV_t); (walk_at "cd")) | ((with_reducible apply Cm.ifK_t); (walk_at "cd")) | ((with_reducible apply Cm.ifK_f); (walk_at "cd"))
  | ((with_reducible apply Cm.sh_get); exact rfl) | ((with_reducible apply Cm.sh_rdv); exact rfl) | ((with_reducible apply Cm.sh_dats); walk_at "da") | ((with_reducible apply Cm.sh_rdAll); walk_at "ra") | ((with_reducible apply Cm.sh_argsV); walk_at "ar") | ((with_reducible apply Cm.sh_backV); walk_at "bk") | ((with_reducible apply Cm.sh_lent); exact rfl) | ((with_reducible apply Cm.sh_wipe); walk_at "wp") | ((with_reducible apply Cm.sh_kit); walk_at "kt") | ((with_reducible apply Cm.sh_tyD); exact rfl) | ((with_reducible apply Cm.sh_setS); walk_at "st") | ((with_reducible apply Cm.sh_setD); first | (walk_at "st") | exact rfl) | ((with_reducible apply Cm.sh_ixN); exact rfl) | ((with_reducible apply Cm.sh_len); first | exact Nat.le_of_ble_eq_true rfl | walk_at "sd") | ((with_reducible apply Cm.sh_and); walk_at "sd") | ((with_reducible apply Cm.fl_and); (first | exact rfl | (with_reducible exact Cm.flatR_ints) | (simp [*, Cm.flatR, Cm.flatD]; done)); (first | exact rfl | (simp [*, Cm.flatS, Cm.flatD, Cm.all_flat_ints]; done)))
  | (walk_at "lf"))
local macro_rules | `(tactic| walk_at "ev") => `(tactic| (repeat (walk_at "stp")))
local macro_rules | `(tactic| walk_at "es") => `(tactic| (repeat (walk_at "stp")))
local macro_rules | `(tactic| walk_at "fm") => `(tactic| (apply Cm.ev_fm; exact rfl; (walk_at "in"); (focus (repeat (walk_at "stp"))); exact rfl; exact rfl; walk_at "tk"))
namespace Lw
open PySem L2 Cm
structure Bx where
  a : Int
  b : Int
  c : Int
abbrev Bx.cell (x : Bx) : Cell := .lst [.int x.a, .int x.b, .int x.c]
structure Bx.ok (x : Bx) (n : Int) : Prop where
  ha : 0 ≤ x.a
  hc : 0 ≤ x.c
  hn : x.c ≤ n
theorem Bx.ok.mono {x : Bx} {n k : Int} (h : x.ok n) (e : n ≤ k) : x.ok k := ⟨h.ha, h.hc, Int.le_trans h.hn e⟩
theorem take_a (a b c m : Int) (ha : 0 < a) (hm : 0 < m ∧ m < 1073741824) :
    fm_w_take [.io 0 (.lst [.int a, .int b, .int c]), .val (.int m)] = some (.dat (.int (a % m)), [.io 0 (.lst [.int (a / m), .int b, .int c]), .val (.int m)]) := by
  unfold fm_w_take m_w_take
  apply Eq.trans
  · walk_at "fm"
  · exact rfl
def mix1 (b c : Int) : Int := (b + 39373 * c) * (69621 + c * c) % 2147483587
def mix2 (o c : Int) : Int := (o * (o % 30011 + 5) + c) % 2147483563
def mix3 (t m : Int) : Int := t * (t % 1013 + 3) % 998244353 / 16 % m
theorem sq_le {c : Int} (h0 : 0 ≤ c) (h1 : c ≤ 2147483648) : 0 ≤ c * c ∧ c * c ≤ 2147483648 * 2147483648 := ⟨Int.mul_nonneg h0 h0, Int.mul_le_mul h1 h1 h0 (by omega)⟩
theorem take_b (a b c m : Int) (ha : a ≤ 0) (hc : 0 ≤ c ∧ c < 2147483648) (hm : 0 < m) :
    fm_w_take [.io 0 (.lst [.int a, .int b, .int c]), .val (.int m)] = some (.dat (.int (mix3 (mix2 (mix1 b (c + 1)) (c + 1)) m)), [.io 0 (.lst [.int a, .int b, .int (c + 1)]), .val (.int m)]) := by
  have h := sq_le (c := c + 1) (by omega) (by omega)
  have h2 : (-(2 ^ 64) < b + 39373 * (c + 1) ∧ b + 39373 * (c + 1) < 2 ^ 64) ∨ (-(2 ^ 64) < 69621 + (c + 1) * (c + 1) ∧ 69621 + (c + 1) * (c + 1) < 2 ^ 64) := by
    generalize (c + 1) * (c + 1) = z at *
    omega
  unfold fm_w_take m_w_take
  apply Eq.trans
  · walk_at "fm"
  · exact rfl
theorem take_spec {x : Bx} {n m : Int} (h : x.ok n) (hn : n < 2147483648) (hm : 0 < m ∧ m < 1073741824) :
    ∃ (r : Int) (y : Bx), fm_w_take [.io 0 x.cell, .val (.int m)] = some (.dat (.int r), [.io 0 y.cell, .val (.int m)]) ∧ 0 ≤ r ∧ r < m ∧ y.ok (n + 1) := by
  obtain ⟨a, b, c⟩ := x
  obtain ⟨h1, h2, h3⟩ := h
  dsimp only at h1 h2 h3
  by_cases ha : 0 < a
  · exact ⟨_, ⟨_, _, _⟩, take_a a b c m ha hm, Int.emod_nonneg _ (by omega), Int.emod_lt_of_pos _ hm.1, ⟨Int.ediv_nonneg h1 (by omega), h2, by dsimp only; omega⟩⟩
  · exact ⟨_, ⟨_, _, _⟩, take_b a b c m (by omega) ⟨h2, by omega⟩ hm.1, Int.emod_nonneg _ (by omega), Int.emod_lt_of_pos _ hm.1, ⟨h1, by dsimp only; omega, by dsimp only; omega⟩⟩
def boxOf (z k : Int) : Bx := ⟨(if z < 0 then -z else z) * (if decide ((10 : Int) ^ (18 : Int).toNat ≤ if z < 0 then -z else z) then 1 else 0), z % 2147483629 * 48271 + 15485863 * k + 37, 0⟩
theorem boxOf_ok (z k : Int) : (boxOf z k).ok 0 := by
  have abs0 : 0 ≤ (if z < 0 then -z else z) := by split <;> omega
  have mul0 : ∀ (z : Int) (b : Bool), 0 ≤ z → 0 ≤ z * (if b then 1 else 0) := fun z b h => by cases b <;> simp <;> omega
  exact ⟨mul0 _ _ abs0, Int.le_refl 0, Int.le_refl 0⟩
theorem box_spec (ns : List Int) (k : Int) (hk : 0 ≤ k) : ∃ x : Bx, fm_w_box [.val (.list (ns.map .int)), .val (.int k)] = some (.new x.cell, [.val (.list (ns.map .int)), .val (.int k)]) ∧ x.ok 0 := by
  by_cases h : k < (ns.length : Int)
  · obtain ⟨z, hz, _⟩ := atI_int hk h
    refine ⟨boxOf z k, ?_, boxOf_ok z k⟩
    unfold fm_w_box m_w_box
    apply Eq.trans
    · walk_at "fm"
    · exact rfl
  · refine ⟨boxOf 0 k, ?_, boxOf_ok 0 k⟩
    unfold fm_w_box m_w_box
    apply Eq.trans
    · walk_at "fm"
    · exact rfl
theorem folded_spec (ns : List Int) (h63 : ns.length ≤ 63) (s : Nat) (hs : 0 < s ∧ s < 63) : ∃ cs : List Int, fm_w_folded [.scr ns, .val (.int (s : Int))] = some (.new (.lst (cs.map .int)), [.scr ns, .val (.int (s : Int))]) ∧ cs.length ≤ s := by
  have e1 : cutD (ns.map .int) none (some (s : Int)) = (ns.take s).map .int := by rw [cut_to, List.map_take]
  have e2 : cutD (ns.map PyData.int) (some (s : Int)) (some 63) = ((ns.drop s).take (63 - s)).map .int := by
    rw [show (63 : Int) = ((63 : Nat) : Int) from rfl, cut_mid, List.map_take, List.map_drop]
  have loop : ∃ e', forL (mgTup (mgCons (mgName 3) (mgCons (mgName 4) mgNil))) m_w_folded_b1 (enumD 0 (cutD (ns.map PyData.int) (some (s : Int)) (some 63))) [.scr ns, .val (.int (s : Int)), .own (.lst (cutD (ns.map .int) none (some (s : Int)))), .no, .no] = some (.nx, e') ∧
      ∃ (cs : List Int) (x y : Slot), e' = [.scr ns, .val (.int (s : Int)), .own (.lst (cs.map .int)), x, y] ∧ cs.length ≤ s := by
    rw [e1, e2]
    by_cases hl : ns.length ≤ s
    · rw [List.drop_eq_nil_of_le hl, List.take_nil]
      exact ⟨_, rfl, ns.take s, .no, .no, rfl, by rw [List.length_take]; omega⟩
    · obtain ⟨e', g1, cs, x, y, g2, g3⟩ := for_inv (b := m_w_folded_b1) (g := mgTup (mgCons (mgName 3) (mgCons (mgName 4) mgNil))) (fun _ e => ∃ (cs : List Int) (x y : Slot), e = [.scr ns, .val (.int (s : Int)), .own (.lst (cs.map .int)), x, y] ∧ cs.length = s)
        (enumD 0 (((ns.drop s).take (63 - s)).map .int)) 0 [.scr ns, .val (.int (s : Int)), .own (.lst ((ns.take s).map .int)), .no, .no] ⟨_, _, _, rfl, by rw [List.length_take]; omega⟩ (by
        rintro j d e hd ⟨cs, x, y, rfl, hc⟩
        obtain ⟨v, hv, rfl⟩ := enumD_get 0 _ j d hd
        rw [List.getElem?_map] at hv
        obtain ⟨z, hz, rfl⟩ := Option.map_eq_some_iff.mp hv
        have hj : j < 63 := by
          have := (List.getElem?_eq_some_iff.mp hz).1
          rw [List.length_take] at this
          omega
        rw [Nat.zero_add]
        have r0 : 0 ≤ (j : Int) % (s : Int) := Int.emod_nonneg _ (by omega)
        have r1 : (j : Int) % (s : Int) < (s : Int) := Int.emod_lt_of_pos _ (by omega)
        obtain ⟨c0, hc0, _⟩ := atI_int (ns := cs) r0 (by rw [hc]; exact r1)
        have hix : ixN (cs.map PyData.int).length ((j : Int) % (s : Int)) = some ((j : Int) % (s : Int)).toNat := ixN_of r0 (by rw [List.length_map, hc]; exact r1)
        refine ⟨[.scr ns, .val (.int (s : Int)), .own (.lst (cs.map .int)), .val (.int (j : Int)), .val (.int z)], [.scr ns, .val (.int (s : Int)), .own (.lst ((cs.set ((j : Int) % (s : Int)).toNat (c0 + z * ((j : Int) + 2))).map .int)), .val (.int (j : Int)), .val (.int z)], ?_, .inl ?_, ⟨_, _, _, rfl, by rw [List.length_set]; exact hc⟩⟩
        · walk_at "ev"
        · unfold m_w_folded_b1
          apply Eq.trans
          · walk_at "es"
          · rw [set_ints])
      exact ⟨e', g1, cs, x, y, g2, by omega⟩
  obtain ⟨e', hl, cs, x, y, rfl, hc⟩ := loop
  refine ⟨cs, ?_, hc⟩
  unfold fm_w_folded m_w_folded
  apply Eq.trans
  · walk_at "fm"
  · exact rfl
theorem sizes_spec {x : Bx} {n : Int} (h : x.ok n) (hn : n + 16 < 2147483648) : ∃ (l : List Int) (s : Int) (k : Nat) (y : Bx), fm_w_sizes [.io 0 x.cell] = some (.new (.lst (l.map .int)), [.io 0 y.cell]) ∧ Rw l s k ∧ k ≤ 5 ∧ y.ok (n + 16) := by
  obtain ⟨r1, y1, e1, a1, b1, o1⟩ := take_spec h (by omega) (m := 3) (by decide)
  obtain ⟨z1, ez1, hz1⟩ := menuI3 (a := 1) (b := 7) (c := 100) a1 b1
  obtain ⟨r2, y2, e2, a2, b2, o2⟩ := take_spec o1 (by omega) (m := z1) (by omega)
  obtain ⟨r3, y3, e3, a3, b3, o3⟩ := take_spec o2 (by omega) (m := 5) (by decide)
  obtain ⟨e', hl, l, s, y, t, rfl, hR, hy⟩ := for_inv (b := m_w_sizes_b1) (g := mgName 2) (fun k e => ∃ (l : List Int) (s : Int) (y : Bx) (t : Slot), e = [.io 0 y.cell, .own (.lst (l.map .int)), t] ∧ Rw l s (k + 1) ∧ y.ok (n + 3 + 2 * k))
    ((List.range r3.toNat).map fun i => .int (i : Nat)) 0 [.io 0 y3.cell, .own (.lst [.int (1 + r2)]), .no] ⟨[1 + r2], _, y3, .no, rfl, .one (by omega) (by omega), o3.mono (by omega)⟩ (by
    rintro j d e hd ⟨l, s, y, t, rfl, hR, hy⟩
    rw [List.getElem?_map] at hd
    obtain ⟨j', hj', rfl⟩ := Option.map_eq_some_iff.mp hd
    have hj : j < 5 := by
      have := (List.getElem?_eq_some_iff.mp hj').1
      rw [List.length_range] at this
      omega
    rw [Nat.zero_add] at hR hy ⊢
    obtain ⟨l', rfl⟩ := hR.last
    have hb := hR.bound (by omega)
    have hb2 := hR.big
    obtain ⟨r4, y4, e4, a4, b4, o4⟩ := take_spec hy (by omega) (m := 11) (by decide)
    obtain ⟨r5, y5, e5, a5, b5, o5⟩ := take_spec o4 (by omega) (m := 4) (by decide)
    obtain ⟨z5, ez5, hz5⟩ := menuI4 (a := 2) (b := 2) (c := 3) (e := 2 + r4) a5 b5
    have hat : atI ((l' ++ [s]).map PyData.int) (-1) = some (.int s) := by rw [List.map_append]; exact atI_last1
    have hlen : ((l' ++ [s]).map PyData.int).length < 100000 := by
      rw [List.length_map, hR.len]
      omega
    refine ⟨[.io 0 y.cell, .own (.lst ((l' ++ [s]).map .int)), .val (.int (j' : Nat))], [.io 0 y5.cell, .own (.lst ((l' ++ [s] ++ [s * z5]).map .int)), .val (.int (j' : Nat))], ?_, .inl ?_, ⟨_, _, y5, _, rfl, hR.more (by omega) (by omega), o5.mono (by omega)⟩⟩
    · walk_at "ev"
    · unfold m_w_sizes_b1
      apply Eq.trans
      · walk_at "es"
      · rw [List.map_append (l₁ := l' ++ [s])]
        rfl)
  rw [List.length_map, List.length_range] at hR hy
  refine ⟨l, s, _, y, ?_, hR, by omega, hy.mono (by omega)⟩
  unfold fm_w_sizes m_w_sizes
  apply Eq.trans
  · walk_at "fm"
  · exact rfl
theorem same_int (n : Nat) (a : Int) : fm_w_same (n + 1) [.val (.int a), .val (.int a)] = some (.dat (.bool true), [.val (.int a), .val (.int a)]) := by
  unfold fm_w_same m_w_same
  apply Eq.trans
  · walk_at "fm"
  · rw [Bool.false_xor, decide_eq_true rfl]
theorem zip_self : ∀ l : List Int, zipD (l.map .int) (l.map .int) = l.map fun a => .tuple [.int a, .int a]
  | [] => rfl
  | a :: l => by
    show PyData.tuple [.int a, .int a] :: zipD (l.map .int) (l.map .int) = _
    rw [zip_self l]
    rfl
theorem all_trues {α : Type} : ∀ l : List α, (l.map fun _ => true).all id = true
  | [] => rfl
  | _ :: l => all_trues l
theorem same_ints (n : Nat) (l : List Int) (hl : l.length ≤ 100000) : fm_w_same (n + 2) [.val (.list (l.map .int)), .val (.list (l.map .int))] = some (.dat (.bool true), [.val (.list (l.map .int)), .val (.list (l.map .int))]) := by
  have hz : (zipD (l.map .int) (l.map .int)).length ≤ 100000 := by rw [zip_self, List.length_map]; exact hl
  have hlc : lcL (mgTup (mgCons (mgName 2) (mgCons (mgName 3) mgNil))) mYes (m_w_same_e1 (fm_w_same (n + 1))) [2, 3] (zipD (l.map .int) (l.map .int)) [.val (.list (l.map .int)), .val (.list (l.map .int)), .no, .no] [] = some ((l.map fun _ => true).map .bool, [.val (.list (l.map .int)), .val (.list (l.map .int)), .no, .no]) := by
    have h := lc_fun (g := mgTup (mgCons (mgName 2) (mgCons (mgName 3) mgNil))) (t := mYes) (m := m_w_same_e1 (fm_w_same (n + 1))) (vs := [2, 3]) (fun _ => .bool true) [.val (.list (l.map .int)), .val (.list (l.map .int)), .no, .no] (l.map fun a => .tuple [.int a, .int a]) [] (fun d hd => by
      obtain ⟨a, _, rfl⟩ := List.mem_map.mp hd
      have hc := same_int n a
      refine ⟨[.val (.list (l.map .int)), .val (.list (l.map .int)), .val (.int a), .val (.int a)], [.val (.list (l.map .int)), .val (.list (l.map .int)), .val (.int a), .val (.int a)], [.val (.list (l.map .int)), .val (.list (l.map .int)), .val (.int a), .val (.int a)], ?_, ?_, ?_, rfl⟩
      · walk_at "ev"
      · walk_at "ev"
      · unfold m_w_same_e1
        walk_at "ev")
    rw [zip_self, h, List.nil_append, List.map_map, List.map_map]
    rfl
  have ha := all_trues l
  unfold fm_w_same m_w_same
  apply Eq.trans
  · walk_at "fm"
  · rw [ha]
def G : List Int → Int → List Int
  | [], _ => []
  | z :: zs, L => List.replicate (L / z).toNat z ++ G zs (L % z)
def Lo (s0 a : Int) : Int := a + (-a) % s0
theorem forL_cons {g : MG} {b : MS} {d : PyData} {ds : List PyData} {e e1 e2 : Sl} (h1 : g d e = some e1) (h2 : b e1 = some (.nx, e2)) : forL g b (d :: ds) e = forL g b ds e2 := by
  simp only [forL, h1, h2, Option.bind_some]
theorem par_b1 {A B : Slot} {left z : Int} {found : List Int} (hz : 1 ≤ z ∧ z ≤ 2073600) (hl : 0 ≤ left ∧ left < 41 * z) (hf : found.length ≤ 1000) :
    m_parcels_of_b1 [A, B, .val (.int left), .own (.lst (found.map .int)), .val (.int z)] = some (.nx, [A, B, .val (.int (left % z)), .own (.lst ((found ++ List.replicate (left / z).toNat z).map .int)), .val (.int z)]) := by
  have h0 : 0 ≤ left / z := Int.ediv_nonneg hl.1 (by omega)
  have h1 : left / z < 41 := Int.ediv_lt_of_lt_mul (by omega) hl.2
  have h2 : (found.map PyData.int).length + ((List.replicate (left / z).toNat z).map PyData.int).length ≤ 100000 := by
    rw [List.length_map, List.length_map, List.length_replicate]
    omega
  unfold m_parcels_of_b1
  apply Eq.trans
  · walk_at "es"
  · rw [List.map_append]
theorem par_loop {A B : Slot} {l : List Int} {s : Int} {k : Nat} (hR : Rw l s k) : k ≤ 5 → ∀ (left : Int) (found : List Int) (t : Slot), 0 ≤ left ∧ left < 41 * s → found.length + 41 * k ≤ 1000 →
    ∃ (u v : Slot), forL (mgName 4) m_parcels_of_b1 (l.reverse.map .int) [A, B, .val (.int left), .own (.lst (found.map .int)), t] = some (.nx, [A, B, u, .own (.lst ((found ++ G l.reverse left).map .int)), v]) := by
  induction hR with
  | @one s h1 h2 =>
    intro _ left found t hl hf
    have hb := par_b1 (A := A) (B := B) (z := s) (found := found) (by omega) hl (by omega)
    refine ⟨.val (.int (left % s)), .val (.int s), ?_⟩
    have hg : mgName 4 (.int s) [A, B, .val (.int left), .own (.lst (found.map .int)), t] = some [A, B, .val (.int left), .own (.lst (found.map .int)), .val (.int s)] := rfl
    show forL _ _ (PyData.int s :: []) _ = _
    rw [forL_cons hg hb]
    show some (Fl.nx, _) = _
    rw [show G [s].reverse left = List.replicate (left / s).toNat s ++ [] from rfl, List.append_nil]
  | @more l s u n h0 h1 h2 ih =>
    intro hk left found t hl hf
    have hsb := (Rw.more h0 h1 h2).bound hk
    have hs1 := h0.big.1
    have hpos : 1 ≤ s * u := (Rw.more h0 h1 h2).big.1
    have hb := par_b1 (A := A) (B := B) (z := s * u) (found := found) ⟨hpos, hsb⟩ hl (by omega)
    have hg : mgName 4 (.int (s * u)) [A, B, .val (.int left), .own (.lst (found.map .int)), t] = some [A, B, .val (.int left), .own (.lst (found.map .int)), .val (.int (s * u))] := rfl
    have hlt : left % (s * u) < s * u := Int.emod_lt_of_pos _ (by omega)
    have hnn : 0 ≤ left % (s * u) := Int.emod_nonneg _ (by omega)
    have hsu : s * u ≤ s * 12 := Int.mul_le_mul_of_nonneg_left h2 (by omega)
    have hq0 : 0 ≤ left / (s * u) := Int.ediv_nonneg hl.1 (by omega)
    have hq : left / (s * u) < 41 := Int.ediv_lt_of_lt_mul (by omega) hl.2
    obtain ⟨x, v, hi⟩ := ih (by omega) (left % (s * u)) (found ++ List.replicate (left / (s * u)).toNat (s * u)) (.val (.int (s * u))) ⟨hnn, by omega⟩ (by
      rw [List.length_append, List.length_replicate]
      omega)
    refine ⟨x, v, ?_⟩
    rw [List.reverse_append]
    show forL _ _ (PyData.int (s * u) :: l.reverse.map .int) _ = _
    rw [forL_cons hg hb, hi, List.append_assoc]
    rfl
theorem Rw.head {l : List Int} {s : Int} {k : Nat} (hR : Rw l s k) : ∃ s0, l[0]? = some s0 ∧ 1 ≤ s0 ∧ s0 ≤ 100 ∧ ∃ t, s = s0 * t := by
  induction hR with
  | @one s h1 h2 => exact ⟨s, rfl, h1, h2, 1, by omega⟩
  | @more l s u n h0 h1 h2 ih =>
    obtain ⟨s0, e1, e2, e3, t, e4⟩ := ih
    refine ⟨s0, ?_, e2, e3, t * u, by rw [← Int.mul_assoc, ← e4]⟩
    have hp := h0.pos
    have hl := h0.len
    rw [List.getElem?_append_left (by omega)]
    exact e1
theorem Lo_spec {s0 a : Int} (h : 0 < s0) : a ≤ Lo s0 a ∧ Lo s0 a < a + s0 ∧ Lo s0 a % s0 = 0 ∧ (a + s0 - 1) / s0 = Lo s0 a / s0 := by
  have h1 := Int.emod_nonneg (-a) (show s0 ≠ 0 by omega)
  have h2 := Int.emod_lt_of_pos (-a) h
  have h3 := Int.mul_ediv_add_emod (-a) s0
  have h4 : Lo s0 a = s0 * (-((-a) / s0)) := by
    unfold Lo
    rw [Int.mul_neg]
    omega
  refine ⟨by unfold Lo; omega, by unfold Lo; omega, by rw [h4, Int.mul_emod_right], ?_⟩
  have h5 : a + s0 - 1 = (s0 - 1 - (-a) % s0) + s0 * (-((-a) / s0)) := by
    rw [Int.mul_neg]
    omega
  rw [h5, Int.add_mul_ediv_left _ _ (by omega), h4, Int.mul_ediv_cancel_left _ (by omega), Int.ediv_eq_zero_of_lt (by omega) (by omega)]
  omega
theorem Lo_le {s0 a b : Int} (h : 0 < s0) (hab : a ≤ b) (hb : ∃ t, b = s0 * t) : Lo s0 a ≤ b := by
  obtain ⟨h1, h2, h3, _⟩ := Lo_spec (a := a) h
  obtain ⟨t, rfl⟩ := hb
  have h4 := Int.mul_ediv_add_emod (Lo s0 a) s0
  rw [h3] at h4
  have h5 : s0 * (Lo s0 a / s0) < s0 * (t + 1) := by
    rw [Int.mul_add]
    omega
  have h6 : Lo s0 a / s0 < t + 1 := Int.lt_of_mul_lt_mul_left h5 (by omega)
  have h7 : s0 * (Lo s0 a / s0) ≤ s0 * t := Int.mul_le_mul_of_nonneg_left (by omega) (by omega)
  omega
theorem parcels_spec {l : List Int} {s s0 a : Int} {k : Nat} (hR : Rw l s k) (hk : k ≤ 5) (h0 : l[0]? = some s0) (ha : 0 ≤ a ∧ a ≤ 40 * s) :
    fm_parcels_of [.val (.list (l.map .int)), .val (.int a)] = some (.new (.lst ((G l.reverse (Lo s0 a)).map .int)), [.val (.list (l.map .int)), .val (.int a)]) := by
  obtain ⟨z, e1, e2, e3, t, e4⟩ := Rw.head hR
  rw [h0] at e1
  cases e1
  have hat : atI (l.map PyData.int) 0 = some (.int s0) := by
    have hp := hR.pos
    have hl := hR.len
    obtain ⟨z, hz, hg, _⟩ := atI_int (ns := l) (r := 0) (by omega) (by omega)
    rw [show (0 : Int).toNat = 0 from rfl, h0] at hg
    cases hg
    exact hz
  have hs := hR.big.1
  have hL := Lo_spec (a := a) (s0 := s0) (by omega)
  have hL2 : Lo s0 a ≤ 40 * s := Lo_le (by omega) ha.2 ⟨t * 40, by rw [e4, Int.mul_comm 40, Int.mul_assoc]⟩
  obtain ⟨u, v, hfor⟩ := par_loop (A := .val (.list (l.map .int))) (B := .val (.int a)) hR hk (Lo s0 a) [] .no ⟨by omega, by omega⟩ (by simp; omega)
  rw [List.nil_append, List.map_reverse, List.map_nil] at hfor
  unfold Lo at *
  unfold fm_parcels_of m_parcels_of
  apply Eq.trans
  · walk_at "fm"
  · exact rfl
theorem due_spec {l : List Int} {s s0 a : Int} {k : Nat} (hR : Rw l s k) (hk : k ≤ 5) (h0 : l[0]? = some s0) (ha : 0 ≤ a ∧ a ≤ 40 * s) :
    fm_w_due [.val (.list (l.map .int)), .val (.int a)] = some (.new (.lst ((G l.reverse (Lo s0 a)).map .int)), [.val (.list (l.map .int)), .val (.int a)]) := by
  obtain ⟨z, e1, e2, e3, t, e4⟩ := Rw.head hR
  rw [h0] at e1
  cases e1
  have hp := hR.pos
  have hlen := hR.len
  have hat : atI (l.map PyData.int) 0 = some (.int s0) := by
    obtain ⟨z, hz, hg, _⟩ := atI_int (ns := l) (r := 0) (by omega) (by omega)
    rw [show (0 : Int).toNat = 0 from rfl, h0] at hg
    cases hg
    exact hz
  have hs := hR.big.1
  have hsb := hR.bound hk
  obtain ⟨hL0, hL1, hL3, hL4⟩ := Lo_spec (a := a) (s0 := s0) (by omega)
  have hL2 : Lo s0 a ≤ 40 * s := Lo_le (by omega) ha.2 ⟨t * 40, by rw [e4, Int.mul_comm 40, Int.mul_assoc]⟩
  generalize Lo s0 a = L at *
  have hsl : gSlL (.list (l.map .int)) (some 1) none = some (.new (.lst ((l.drop 1).map .int))) := by
    show some (Res.new (.lst (cutD (l.map .int) (some ((1 : Nat) : Int)) none))) = _
    rw [cut_from, List.map_drop]
  have hzl : (zipD (l.map .int) ((l.drop 1).map .int)).length = k - 1 := by
    rw [zipD_len, List.length_map, List.length_map, List.length_drop, hlen]
    omega
  obtain ⟨e', hfor, x, u4, u5, u6, rfl, hx, hG⟩ := for_inv (b := m_w_due_b1) (g := mgTup (mgCons (mgName 4) (mgCons (mgName 5) mgNil))) (fun j e => ∃ (x : Int) (u4 u5 u6 : Slot), e = [.val (.list (l.map .int)), .val (.int a), .val (.int (L / x)), .own (.lst ((G (l.take j).reverse (L % x)).map .int)), u4, u5, u6] ∧ l[j]? = some x ∧ (G (l.take j).reverse (L % x)).length ≤ 12 * j)
    (zipD (l.map .int) ((l.drop 1).map .int)) 0 [.val (.list (l.map .int)), .val (.int a), .val (.int (L / s0)), .own (.lst []), .no, .no, .no] ⟨s0, _, _, _, rfl, h0, by simp [G]⟩ (by
    rintro j d e hd ⟨x, u4, u5, u6, rfl, hx, hG⟩
    rw [Nat.zero_add] at hx hG ⊢
    obtain ⟨d1, d2, q1, q2, rfl⟩ := zipD_get _ _ j d hd
    rw [List.getElem?_map, hx] at q1
    cases q1
    rw [List.getElem?_map, List.getElem?_drop] at q2
    obtain ⟨y, hy, rfl⟩ := Option.map_eq_some_iff.mp q2
    rw [Nat.add_comm] at hy
    obtain ⟨hxy, t, t1, t2, rfl⟩ := hR.step j x y hx hy
    have hxm := hR.mem x (List.mem_of_getElem? hx)
    have hj : j < 5 := by
      have := (List.getElem?_eq_some_iff.mp hx).1
      omega
    have hdiv : x * t / x = t := Int.mul_ediv_cancel_left _ (by omega)
    have hm0 : 0 ≤ (L / x) % t := Int.emod_nonneg _ (by omega)
    have hm1 : (L / x) % t < t := Int.emod_lt_of_pos _ (by omega)
    have hq : L / x / t = L / (x * t) := Int.ediv_ediv_of_nonneg (by omega)
    have hr1 : (L % (x * t)) / x = (L / x) % t := by
      rw [Int.emod_def L (x * t), Int.emod_def (L / x) t, hq, Int.mul_assoc, Int.sub_eq_add_neg, ← Int.mul_neg, Int.add_mul_ediv_left _ _ (by omega)]
      rfl
    have hr2 : (L % (x * t)) % x = L % x := Int.emod_emod_of_dvd L ⟨t, rfl⟩
    have hGn : G (l.take (j + 1)).reverse (L % (x * t)) = List.replicate ((L / x) % t).toNat x ++ G (l.take j).reverse (L % x) := by
      rw [List.take_add_one, hx]
      show G (l.take j ++ [x]).reverse _ = _
      rw [List.reverse_append]
      show List.replicate ((L % (x * t)) / x).toNat x ++ G (l.take j).reverse ((L % (x * t)) % x) = _
      rw [hr1, hr2]
    have hcat : ((List.replicate ((L / x) % t).toNat x).map PyData.int).length + ((G (l.take j).reverse (L % x)).map PyData.int).length ≤ 100000 := by
      rw [List.length_map, List.length_map, List.length_replicate]
      omega
    refine ⟨[.val (.list (l.map .int)), .val (.int a), .val (.int (L / x)), .own (.lst ((G (l.take j).reverse (L % x)).map .int)), .val (.int x), .val (.int (x * t)), u6], [.val (.list (l.map .int)), .val (.int a), .val (.int (L / (x * t))), .own (.lst ((G (l.take (j + 1)).reverse (L % (x * t))).map .int)), .val (.int x), .val (.int (x * t)), .val (.int t)], ?_, .inl ?_, ⟨x * t, _, _, _, rfl, hy, ?_⟩⟩
    · walk_at "ev"
    · have hgd : gDiv (.int (x * t)) (.int x) = some (.dat (.int t)) := by
        rw [g_div ⟨by omega, by omega⟩, hdiv]
      rw [hGn, ← hq, List.map_append]
      unfold m_w_due_b1
      walk_at "es"
    · rw [hGn, List.length_append, List.length_replicate]
      omega)
  rw [Nat.zero_add, hzl] at hx hG hfor
  obtain ⟨l0, rfl⟩ := hR.last
  rw [List.length_append, List.length_singleton] at hlen
  have hk1 : k - 1 = l0.length := by omega
  rw [hk1, List.getElem?_append_right (Nat.le_refl _), Nat.sub_self] at hx
  cases hx
  rw [hk1, List.take_left' rfl] at hG hfor
  have hq0 : 0 ≤ L / s := Int.ediv_nonneg (by omega) (by omega)
  have hq1 : L / s < 41 := Int.ediv_lt_of_lt_mul (by omega) (by omega)
  have hcat : ((List.replicate (L / s).toNat s).map PyData.int).length + ((G l0.reverse (L % s)).map PyData.int).length ≤ 100000 := by
    rw [List.length_map, List.length_map, List.length_replicate]
    omega
  have hat1 : atI ((l0 ++ [s]).map PyData.int) (-1) = some (.int s) := by rw [List.map_append]; exact atI_last1
  have hgd : gDiv (.int (a + s0 - 1)) (.int s0) = some (.dat (.int (L / s0))) := by
    rw [g_div ⟨by omega, by omega⟩, hL4]
  have hGf : G (l0 ++ [s]).reverse L = List.replicate (L / s).toNat s ++ G l0.reverse (L % s) := by
    rw [List.reverse_append]
    rfl
  have hGm : (G (l0 ++ [s]).reverse L).map PyData.int = (List.replicate (L / s).toNat s).map .int ++ (G l0.reverse (L % s)).map .int := by rw [hGf, List.map_append]
  rw [hGm]
  unfold fm_w_due m_w_due
  apply Eq.trans
  · walk_at "fm"
  · exact rfl
theorem p9 : (10 : Int) ^ (9 : Int).toNat = 1000000000 := by decide
theorem wide_spec {x : Bx} {n m : Int} (hx : x.ok n) (hn : n + 10 < 2147483648) (hm : 0 < m) : ∃ (r : Int) (y : Bx), fm_w_wide [.io 0 x.cell, .val (.int m)] = some (.dat (.int r), [.io 0 y.cell, .val (.int m)]) ∧ 0 ≤ r ∧ r < m ∧ y.ok (n + 4) := by
  obtain ⟨e', hfor, y, v, t, rfl, oy⟩ := for_inv (b := m_w_wide_b1) (g := mgName 3) (fun j e => ∃ (y : Bx) (v : Int) (t : Slot), e = [.io 0 y.cell, .val (.int m), .val (.int v), t] ∧ y.ok (n + (j : Int)))
    ((List.range (4 : Int).toNat).map fun i => .int (i : Nat)) 0 [.io 0 x.cell, .val (.int m), .val (.int 0), .no] ⟨x, 0, _, rfl, hx.mono (by omega)⟩ (by
    rintro j d e hd ⟨y, v, t, rfl, oy⟩
    have hj : j < 4 := by
      have := (List.getElem?_eq_some_iff.mp hd).1
      rwa [List.length_map, List.length_range] at this
    rw [Nat.zero_add] at oy ⊢
    obtain ⟨r, y1, f1, c1, d1, o1⟩ := take_spec oy (by omega) (m := (10 : Int) ^ (9 : Int).toNat) (by rw [p9]; omega)
    have hmul : gMul (.int v) (.int ((10 : Int) ^ (9 : Int).toNat)) = some (.dat (.int (v * (10 : Int) ^ (9 : Int).toNat))) := g_mul (.inr (by rw [p9]; omega))
    refine ⟨[.io 0 y.cell, .val (.int m), .val (.int v), .val d], [.io 0 y1.cell, .val (.int m), .val (.int (v * (10 : Int) ^ (9 : Int).toNat + r)), .val d], ?_, .inl ?_, ⟨_, _, _, rfl, o1.mono (by omega)⟩⟩
    · walk_at "ev"
    · unfold m_w_wide_b1
      walk_at "es")
  rw [List.length_map, List.length_range] at oy
  refine ⟨v % m, y, ?_, Int.emod_nonneg _ (by omega), Int.emod_lt_of_pos _ hm, oy.mono (by omega)⟩
  unfold fm_w_wide m_w_wide
  apply Eq.trans
  · walk_at "fm"
  · exact rfl
theorem rw_take {k : Nat} (hk : k < 5) : ∃ s, Rw ([100, 1200, 14400, 172800, 2073600].take (k + 1)) s (k + 1) := by
  have h1 : Rw [100] 100 1 := .one (by decide) (by decide)
  have h2 : Rw [100, 1200] 1200 2 := .more (s := 100) (t := 12) (l := [100]) h1 (by decide) (by decide)
  have h3 : Rw [100, 1200, 14400] 14400 3 := .more (s := 1200) (t := 12) (l := [100, 1200]) h2 (by decide) (by decide)
  have h4 : Rw [100, 1200, 14400, 172800] 172800 4 := .more (s := 14400) (t := 12) (l := [100, 1200, 14400]) h3 (by decide) (by decide)
  have h5 : Rw [100, 1200, 14400, 172800, 2073600] 2073600 5 := .more (s := 172800) (t := 12) (l := [100, 1200, 14400, 172800]) h4 (by decide) (by decide)
  match k, hk with
  | 0, _ => exact ⟨_, h1⟩
  | 1, _ => exact ⟨_, h2⟩
  | 2, _ => exact ⟨_, h3⟩
  | 3, _ => exact ⟨_, h4⟩
  | 4, _ => exact ⟨_, h5⟩
theorem row_spec {x : Bx} {n : Int} (hx : x.ok n) (hn : n + 30 < 2147483648) : ∃ (l : List Int) (s : Int) (k : Nat) (y : Bx), fm_w_row [.io 0 x.cell] = some (.new (.lst (l.map .int)), [.io 0 y.cell]) ∧ Rw l s k ∧ k ≤ 5 ∧ y.ok (n + 20) := by
  obtain ⟨r1, x1, e1, c1, d1, o1⟩ := take_spec hx (by omega) (m := 6) (by omega)
  by_cases h : r1 = 0
  · obtain ⟨r2, x2, e2, c2, d2, o2⟩ := take_spec o1 (by omega) (m := 5) (by omega)
    obtain ⟨k, hk⟩ : ∃ k : Nat, r2 = (k : Int) := ⟨r2.toNat, by omega⟩
    subst hk
    obtain ⟨s, hR⟩ := rw_take (k := k) (by omega)
    have hsl : gSlL (.list [.int 100, .int 1200, .int 14400, .int 172800, .int 2073600]) none (some (1 + (k : Int))) = some (.new (.lst (([100, 1200, 14400, 172800, 2073600].take (k + 1) : List Int).map .int))) := by
      rw [show 1 + (k : Int) = ((k + 1 : Nat) : Int) by omega]
      show some (Res.new (.lst (cutD (([100, 1200, 14400, 172800, 2073600] : List Int).map .int) none (some ((k + 1 : Nat) : Int))))) = _
      rw [ints_cut_to]
    refine ⟨_, s, k + 1, x2, ?_, hR, by omega, o2.mono (by omega)⟩
    unfold fm_w_row m_w_row
    apply Eq.trans
    · walk_at "fm"
    · exact rfl
  · obtain ⟨l, s, k, y, e2, hR, hk, o2⟩ := sizes_spec o1 (by omega)
    refine ⟨l, s, k, y, ?_, hR, hk, o2.mono (by omega)⟩
    unfold fm_w_row m_w_row
    apply Eq.trans
    · walk_at "fm"
    · exact rfl
theorem amount_spec {x : Bx} {n : Int} {l : List Int} {s : Int} {k : Nat} (hx : x.ok n) (hn : n + 30 < 2147483648) (hR : Rw l s k) (hk : k ≤ 5) : ∃ (a : Int) (y : Bx), fm_w_amount [.io 0 x.cell, .val (.list (l.map .int))] = some (.dat (.int a), [.io 0 y.cell, .val (.list (l.map .int))]) ∧ 0 ≤ a ∧ a ≤ 40 * s ∧ y.ok (n + 10) := by
  have hb := hR.bound hk
  have hs := hR.big.1
  have hlen := hR.len
  have hp := hR.pos
  have hat1 : atI (l.map PyData.int) (-1) = some (.int s) := by
    obtain ⟨l0, rfl⟩ := hR.last
    rw [List.map_append]
    exact atI_last1
  obtain ⟨r1, x1, e1, c1, d1, o1⟩ := take_spec hx (by omega) (m := (l.length : Int)) (by omega)
  obtain ⟨z, hz, _, hzm⟩ := atI_int (ns := l) c1 d1
  have hzb := hR.mem z hzm
  obtain ⟨r2, x2, e2, c2, d2, o2⟩ := take_spec o1 (by omega) (m := 6) (by omega)
  obtain ⟨r3, x3, e3, c3, d3, o3⟩ := take_spec o2 (by omega) (m := 3) (by omega)
  obtain ⟨q, hq, hqm⟩ := menuI3 (a := 0) (b := 1) (c := -1) c3 d3
  by_cases w0 : r2 = 0
  · obtain ⟨r4, x4, e4, c4, d4, o4⟩ := take_spec o3 (by omega) (m := 3) (by omega)
    obtain ⟨a, ha, ham⟩ := menuI3 (a := 0) (b := 40 * s) (c := 1) c4 d4
    refine ⟨a, x4, ?_, by omega, by omega, o4.mono (by omega)⟩
    unfold fm_w_amount m_w_amount
    apply Eq.trans
    · walk_at "fm"
    · exact rfl
  · by_cases w1 : r2 < 3
    · obtain ⟨r4, x4, e4, c4, d4, o4⟩ := take_spec o3 (by omega) (m := 13) (by omega)
      refine ⟨if (if z * r4 + q < 40 * s then z * r4 + q else 40 * s) > 0 then (if z * r4 + q < 40 * s then z * r4 + q else 40 * s) else 0, x4, ?_, ?_, ?_, o4.mono (by omega)⟩
      · unfold fm_w_amount m_w_amount
        apply Eq.trans
        · walk_at "fm"
        · exact rfl
      · generalize z * r4 = P
        split <;> split <;> omega
      · generalize z * r4 = P
        split <;> split <;> omega
    · by_cases w2 : r2 = 3
      · obtain ⟨r4, x4, e4, c4, d4, o4⟩ := take_spec o3 (by omega) (m := s + 1) (by omega)
        refine ⟨if 40 * s - r4 > 0 then 40 * s - r4 else 0, x4, ?_, ?_, ?_, o4.mono (by omega)⟩
        · unfold fm_w_amount m_w_amount
          apply Eq.trans
          · walk_at "fm"
          · exact rfl
        · split <;> omega
        · split <;> omega
      · obtain ⟨r4, x4, e4, c4, d4, o4⟩ := wide_spec o3 (by omega) (m := 40 * s + 1) (by omega)
        refine ⟨r4, x4, ?_, c4, by omega, o4.mono (by omega)⟩
        unfold fm_w_amount m_w_amount
        apply Eq.trans
        · walk_at "fm"
        · exact rfl
theorem G_mem : ∀ (zs : List Int) (L x : Int), x ∈ G zs L → x ∈ zs
  | [], _, _, h => by cases h
  | z :: zs, L, x, h => by
    rcases List.mem_append.mp h with h | h
    · rw [(List.mem_replicate.mp h).2]
      exact List.mem_cons_self
    · exact List.mem_cons_of_mem _ (G_mem zs _ x h)
theorem G_down : ∀ (zs : List Int) (L : Int), zs.Pairwise (fun a b => b ≤ a) → (G zs L).Pairwise (fun a b => b ≤ a)
  | [], _, _ => .nil
  | z :: zs, L, h => by
    rw [List.pairwise_cons] at h
    show (List.replicate (L / z).toNat z ++ G zs (L % z)).Pairwise _
    rw [List.pairwise_append]
    refine ⟨List.pairwise_replicate.mpr (Or.inr (Int.le_refl _)), G_down zs _ h.2, fun a ha b hb => ?_⟩
    rw [(List.mem_replicate.mp ha).2]
    exact h.1 b (G_mem zs _ b hb)
theorem Rw_down {l : List Int} {s : Int} {k : Nat} (hR : Rw l s k) : l.reverse.Pairwise (fun a b => b ≤ a) := by
  induction hR with
  | one h1 h2 => simp
  | @more l s u n h0 h1 h2 ih =>
    rw [List.reverse_append]
    show (s * u :: l.reverse).Pairwise _
    rw [List.pairwise_cons]
    refine ⟨fun b hb => ?_, ih⟩
    have h3 := (h0.mem b (List.mem_reverse.mp hb)).2
    have h4 := h0.big.1
    have h5 : s * 1 ≤ s * u := Int.mul_le_mul_of_nonneg_left (by omega) (by omega)
    omega
theorem sum_rep (z : Int) : ∀ n : Nat, (List.replicate n z).sum = z * (n : Int)
  | 0 => by simp
  | n + 1 => by
    rw [List.replicate_succ, List.sum_cons, sum_rep z n, Int.natCast_succ, Int.mul_add]
    omega
theorem G_sum {l : List Int} {s : Int} {k : Nat} (hR : Rw l s k) : ∀ (s0 L : Int), l[0]? = some s0 → 0 ≤ L → (G l.reverse L).sum + L % s0 = L := by
  induction hR with
  | @one s h1 h2 =>
    intro s0 L h0 hL
    cases h0
    show (List.replicate (L / s).toNat s ++ []).sum + L % s = L
    rw [List.append_nil, sum_rep, Int.toNat_of_nonneg (Int.ediv_nonneg hL (by omega))]
    exact Int.mul_ediv_add_emod L s
  | @more l s u n h0 h1 h2 ih =>
    intro s0 L h3 hL
    have hp := h0.pos
    have hl := h0.len
    rw [List.getElem?_append_left (by omega)] at h3
    have hs := h0.big.1
    have hpos : 1 ≤ s * u := (Rw.more h0 h1 h2).big.1
    have hi := ih s0 (L % (s * u)) h3 (Int.emod_nonneg _ (by omega))
    obtain ⟨z, e1, e2, e3, t, e4⟩ := Rw.head h0
    rw [h3] at e1
    cases e1
    have hd : L % (s * u) % s0 = L % s0 := Int.emod_emod_of_dvd L ⟨t * u, by rw [e4, Int.mul_assoc]⟩
    rw [List.reverse_append]
    show (List.replicate (L / (s * u)).toNat (s * u) ++ G l.reverse (L % (s * u))).sum + L % s0 = L
    rw [List.sum_append, sum_rep, Int.toNat_of_nonneg (Int.ediv_nonneg hL (by omega))]
    have := Int.mul_ediv_add_emod L (s * u)
    omega
theorem G_zero : ∀ zs : List Int, G zs 0 = []
  | [] => rfl
  | z :: zs => by
    show List.replicate ((0 : Int) / z).toNat z ++ G zs (0 % z) = []
    rw [Int.zero_ediv, Int.zero_emod, G_zero zs]
    rfl
theorem right_b1 {l D : List Int} {a : Int} {B t3 t6 t7 : Slot} (hp : fm_parcels_of [.val (.list (l.map .int)), .val (.int a)] = some (.new (.lst (D.map .int)), [.val (.list (l.map .int)), .val (.int a)])) (hD : D.length ≤ 1000) :
    ∃ b7 : Slot, m_w_right_b1 [B, .own (.lst (l.map .int)), .own (.lst (l.map .int)), t3, .val (.int a), .own (.lst (D.map .int)), t6, t7] = some (.nx, [B, .own (.lst (l.map .int)), .own (.lst (l.map .int)), t3, .val (.int a), .own (.lst (D.map .int)), t6, b7]) := by
  have hs := same_ints 2 D (by omega)
  have hlen : (D.map PyData.int).length < 100000 := by
    rw [List.length_map]
    omega
  by_cases hd : D = []
  · apply Exists.intro
    unfold m_w_right_b1
    walk_at "es"
  · obtain ⟨z, hz, _, _⟩ := atI_int (ns := D) (r := 0) (by omega) (by have := List.length_pos_iff.mpr hd; omega)
    apply Exists.intro
    unfold m_w_right_b1
    walk_at "es"
theorem G_len {l : List Int} {s : Int} {k : Nat} (hR : Rw l s k) : ∀ L : Int, 0 ≤ L ∧ L < 41 * s → (G l.reverse L).length ≤ 41 * k := by
  induction hR with
  | @one s h1 h2 =>
    intro L hL
    have hq : L / s < 41 := Int.ediv_lt_of_lt_mul (by omega) hL.2
    show (List.replicate (L / s).toNat s ++ []).length ≤ _
    rw [List.append_nil, List.length_replicate]
    omega
  | @more l s u n h0 h1 h2 ih =>
    intro L hL
    have hs := h0.big.1
    have hpos : 1 ≤ s * u := (Rw.more h0 h1 h2).big.1
    have hq : L / (s * u) < 41 := Int.ediv_lt_of_lt_mul (by omega) hL.2
    have hlt : L % (s * u) < s * u := Int.emod_lt_of_pos _ (by omega)
    have hnn : 0 ≤ L % (s * u) := Int.emod_nonneg _ (by omega)
    have hsu : s * u ≤ s * 12 := Int.mul_le_mul_of_nonneg_left h2 (by omega)
    have hi := ih (L % (s * u)) ⟨hnn, by omega⟩
    rw [List.reverse_append]
    show (List.replicate (L / (s * u)).toNat (s * u) ++ G l.reverse (L % (s * u))).length ≤ _
    rw [List.length_append, List.length_replicate]
    omega
theorem right_b2 {x : Bx} {n : Int} {l : List Int} {s : Int} {k : Nat} {t3 t4 t5 t6 t7 : Slot} (hx : x.ok n) (hn : n + 30 < 2147483648) (hR : Rw l s k) (hk : k ≤ 5) :
    ∃ (y : Bx) (b4 b5 b6 b7 : Slot), m_w_right_b2 [.io 0 x.cell, .own (.lst (l.map .int)), .own (.lst (l.map .int)), t3, t4, t5, t6, t7] = some (.nx, [.io 0 y.cell, .own (.lst (l.map .int)), .own (.lst (l.map .int)), t3, b4, b5, b6, b7]) ∧ y.ok (n + 10) := by
  obtain ⟨s0, h0, e2, e3, t, e4⟩ := Rw.head hR
  have hp := hR.pos
  have hlen := hR.len
  obtain ⟨a, y, ea, a0, a1, oy⟩ := amount_spec hx (by omega) hR hk
  have hd := due_spec hR hk h0 ⟨a0, a1⟩
  have hpc := parcels_spec hR hk h0 ⟨a0, a1⟩
  obtain ⟨hL0, hL1, hL3, _⟩ := Lo_spec (a := a) (s0 := s0) (by omega)
  have hsum := G_sum hR s0 (Lo s0 a) h0 (by omega)
  have hdown := G_down l.reverse (Lo s0 a) (Rw_down hR)
  have hDl : (G l.reverse (Lo s0 a)).length ≤ 1000 := by
    have hL2 : Lo s0 a ≤ 40 * s := Lo_le (by omega) a1 ⟨t * 40, by rw [e4, Int.mul_comm 40, Int.mul_assoc]⟩
    exact Nat.le_trans (G_len hR (Lo s0 a) ⟨by omega, by have := hR.big.1; omega⟩) (by omega)
  rw [hL3, Int.add_zero] at hsum
  generalize G l.reverse (Lo s0 a) = D at *
  have hat : atI (l.map PyData.int) 0 = some (.int s0) := by
    obtain ⟨z, hz, hg, _⟩ := atI_int (ns := l) (r := 0) (by omega) (by omega)
    rw [show (0 : Int).toNat = 0 from rfl, h0] at hg
    cases hg
    exact hz
  have heq : gEq true (.list (D.map .int)) (.list ((isort D).map .int).reverse) = some (.dat (.bool false)) := by
    rw [← List.map_reverse, isort_down hdown, g_eqLI, decide_eq_true rfl]
    rfl
  obtain ⟨e', hfor, u6, u7, rfl⟩ := for_inv (b := m_w_right_b1) (g := mgName 6) (fun _ e => ∃ u6 u7 : Slot, e = [.io 0 y.cell, .own (.lst (l.map .int)), .own (.lst (l.map .int)), t3, .val (.int a), .own (.lst (D.map .int)), u6, u7])
    ((List.range (2 : Int).toNat).map fun i => .int (i : Nat)) 0 [.io 0 y.cell, .own (.lst (l.map .int)), .own (.lst (l.map .int)), t3, .val (.int a), .own (.lst (D.map .int)), t6, t7] ⟨_, _, rfl⟩ (by
    rintro j d e hd ⟨u6, u7, rfl⟩
    obtain ⟨b7, hb⟩ := right_b1 (B := .io 0 y.cell) (t3 := t3) (t6 := .val d) (t7 := u7) hpc hDl
    refine ⟨[.io 0 y.cell, .own (.lst (l.map .int)), .own (.lst (l.map .int)), t3, .val (.int a), .own (.lst (D.map .int)), .val d, u7], _, ?_, .inl hb, ⟨_, _, rfl⟩⟩
    walk_at "ev")
  refine ⟨y, .val (.int a), .own (.lst (D.map .int)), u6, u7, ?_, oy⟩
  unfold m_w_right_b2
  walk_at "es"
theorem right_spec {x : Bx} (hx : x.ok 0) : ∃ y : Bx, fm_w_right [.io 0 x.cell] = some (.dat (.bool true), [.io 0 y.cell]) := by
  obtain ⟨l, s, k, x1, e1, hR, hk, o1⟩ := row_spec hx (by omega)
  obtain ⟨s0, h0, e2, e3, t, e4⟩ := Rw.head hR
  have hs := hR.big.1
  have hb := hR.bound hk
  obtain ⟨e', hfor, y, u3, u4, u5, u6, u7, rfl, oy⟩ := for_inv (b := m_w_right_b2) (g := mgName 3) (fun j e => ∃ (y : Bx) (u3 u4 u5 u6 u7 : Slot), e = [.io 0 y.cell, .own (.lst (l.map .int)), .own (.lst (l.map .int)), u3, u4, u5, u6, u7] ∧ y.ok (20 + 10 * (j : Int)))
    ((List.range (12 : Int).toNat).map fun i => .int (i : Nat)) 0 [.io 0 x1.cell, .own (.lst (l.map .int)), .own (.lst (l.map .int)), .no, .no, .no, .no, .no] ⟨x1, _, _, _, _, _, rfl, o1.mono (by omega)⟩ (by
    rintro j d e hd ⟨y, u3, u4, u5, u6, u7, rfl, oy⟩
    have hj : j < 12 := by
      have := (List.getElem?_eq_some_iff.mp hd).1
      rwa [List.length_map, List.length_range] at this
    rw [Nat.zero_add] at oy ⊢
    obtain ⟨y1, b4, b5, b6, b7, hb, o2⟩ := right_b2 (t3 := .val d) (t4 := u4) (t5 := u5) (t6 := u6) (t7 := u7) oy (by omega) hR hk
    refine ⟨[.io 0 y.cell, .own (.lst (l.map .int)), .own (.lst (l.map .int)), .val d, u4, u5, u6, u7], _, ?_, .inl hb, ⟨_, _, _, _, _, _, rfl, o2.mono (by omega)⟩⟩
    walk_at "ev")
  have hp0 := parcels_spec (a := 0) hR hk h0 (by omega)
  have hL0 : Lo s0 0 = 0 := by
    unfold Lo
    simp
  rw [hL0, G_zero] at hp0
  have hp4 := parcels_spec (a := 40 * s) hR hk h0 (by omega)
  have hL4 : Lo s0 (40 * s) = 40 * s := by
    obtain ⟨h1, _, _, _⟩ := Lo_spec (a := 40 * s) (s0 := s0) (by omega)
    have h2 : Lo s0 (40 * s) ≤ 40 * s := Lo_le (by omega) (Int.le_refl _) ⟨t * 40, by rw [e4, Int.mul_comm 40, Int.mul_assoc]⟩
    omega
  have hat1 : atI (l.map PyData.int) (-1) = some (.int s) := by
    obtain ⟨l0, rfl⟩ := hR.last
    rw [List.map_append]
    exact atI_last1
  have hG4 : G l.reverse (40 * s) = List.replicate (40 : Int).toNat s := by
    obtain ⟨l0, rfl⟩ := hR.last
    rw [List.reverse_append]
    show List.replicate (40 * s / s).toNat s ++ G l0.reverse (40 * s % s) = _
    rw [Int.mul_ediv_cancel _ (by omega), Int.mul_emod_left, G_zero, List.append_nil]
  rw [hL4, hG4] at hp4
  have heq : gEq false (.list ((List.replicate (40 : Int).toNat s).map .int)) (.list ((List.replicate (40 : Int).toNat s).map .int)) = some (.dat (.bool true)) := by
    rw [g_eqLI, decide_eq_true rfl]
    rfl
  rw [List.map_nil] at hp0
  refine ⟨y, ?_⟩
  unfold fm_w_right m_w_right
  apply Eq.trans
  · walk_at "fm"
  · exact rfl
theorem law_true (ns : List Int) (h63 : ns.length ≤ 63) : ∃ outs, fm_law [.scr ns] = some (.dat (.bool true), outs) := by
  obtain ⟨cs, hf0, hcs⟩ := folded_spec ns h63 8 (by decide)
  have hf : fm_w_folded [.scr ns, .val (.int 8)] = some (.new (.lst (cs.map .int)), [.scr ns, .val (.int 8)]) := hf0
  clear hf0
  have hm : -(2 ^ 62) ≤ (if (cs.length : Int) > 1 then (cs.length : Int) else 1) ∧ (if (cs.length : Int) > 1 then (cs.length : Int) else 1) < 2 ^ 62 := by
    split <;> omega
  generalize hM : (if (cs.length : Int) > 1 then (cs.length : Int) else 1) = M at *
  have hMM : M ≤ 8 := by
    rw [← hM]
    split <;> omega
  have hlc : lcL (mgName 2) mYes m_law_e1 [2] ((List.range M.toNat).map fun i => .int (i : Nat)) [.scr ns, .own (.lst (cs.map .int)), .no] [] = some (((List.range M.toNat).map fun _ => true).map .bool, [.scr ns, .own (.lst (cs.map .int)), .no]) := by
    have h := lc_fun (g := mgName 2) (t := mYes) (m := m_law_e1) (vs := [2]) (fun _ => .bool true) [.scr ns, .own (.lst (cs.map .int)), .no] ((List.range M.toNat).map fun i => .int (i : Nat)) [] (fun d hd => by
      obtain ⟨i, _, rfl⟩ := List.mem_map.mp hd
      obtain ⟨x, ex, ox⟩ := box_spec cs (i : Int) (by omega)
      obtain ⟨y, er⟩ := right_spec ox
      refine ⟨[.scr ns, .own (.lst (cs.map .int)), .val (.int (i : Nat))], [.scr ns, .own (.lst (cs.map .int)), .val (.int (i : Nat))], [.scr ns, .own (.lst (cs.map .int)), .val (.int (i : Nat))], ?_, ?_, ?_, rfl⟩
      · walk_at "ev"
      · walk_at "ev"
      · unfold m_law_e1
        walk_at "ev")
    rw [h, List.nil_append, List.map_map, List.map_map]
    rfl
  have hlr : ((List.range M.toNat).map fun i => PyData.int (i : Nat)).length ≤ 100000 := by
    rw [List.length_map, List.length_range]
    omega
  have ha := all_trues (List.range M.toNat)
  have hg : gInt2 (fun i j => if j > i then j else i) [.int 1, .int (cs.length : Int)] = some (.dat (.int M)) := by
    rw [← hM]
    rfl
  have hfl : (cs.map PyData.int).all flatD = true := all_flat_ints cs
  refine ⟨[.scr ns], ?_⟩
  unfold fm_law m_law
  apply Eq.trans
  · walk_at "fm"
  · rw [ha]
end Lw
namespace Lw
open PySem PySem.Spec PyProof.Rows L2 Cm
def d_parcels_of : He.DefD := ⟨("parcels_of", none), "parcels_of", "parcels_of", defArgs s_parcels_of, defBody s_parcels_of, defScope s_parcels_of, [], []⟩
def d_w_box : He.DefD := ⟨("_law_box", none), "_law_box", "_law_box", defArgs s_w_box, defBody s_w_box, defScope s_w_box, [], []⟩
def d_w_take : He.DefD := ⟨("_law_take", none), "_law_take", "_law_take", defArgs s_w_take, defBody s_w_take, defScope s_w_take, [], []⟩
def d_w_folded : He.DefD := ⟨("_law_folded", none), "_law_folded", "_law_folded", defArgs s_w_folded, defBody s_w_folded, defScope s_w_folded, [], []⟩
def d_w_wide : He.DefD := ⟨("_law_wide", none), "_law_wide", "_law_wide", defArgs s_w_wide, defBody s_w_wide, defScope s_w_wide, [], []⟩
def d_w_same : He.DefD := ⟨("_law_same", none), "_law_same", "_law_same", defArgs s_w_same, defBody s_w_same, defScope s_w_same, [], []⟩
def d_w_sizes : He.DefD := ⟨("_law_sizes", none), "_law_sizes", "_law_sizes", defArgs s_w_sizes, defBody s_w_sizes, defScope s_w_sizes, [], []⟩
def d_w_row : He.DefD := ⟨("_law_row", none), "_law_row", "_law_row", defArgs s_w_row, defBody s_w_row, defScope s_w_row, [], []⟩
def d_w_amount : He.DefD := ⟨("_law_amount", none), "_law_amount", "_law_amount", defArgs s_w_amount, defBody s_w_amount, defScope s_w_amount, [], []⟩
def d_w_due : He.DefD := ⟨("_law_due", none), "_law_due", "_law_due", defArgs s_w_due, defBody s_w_due, defScope s_w_due, [], []⟩
def d_w_right : He.DefD := ⟨("_law_right", none), "_law_right", "_law_right", defArgs s_w_right, defBody s_w_right, defScope s_w_right, [], []⟩
def d_law : He.DefD := ⟨("law", none), "law", "law", defArgs s_law, defBody s_law, defScope s_law, [], []⟩
def fn : List He.DefD := [d_parcels_of, d_w_box, d_w_take, d_w_folded, d_w_wide, d_w_same, d_w_sizes, d_w_row, d_w_amount, d_w_due, d_w_right, d_law]
def fa : List He.Fa := [.glo "parcels_of", .glo "_law_box", .glo "_law_take", .glo "_law_folded", .glo "_law_wide", .glo "_law_same", .glo "_law_sizes", .glo "_law_row", .glo "_law_amount", .glo "_law_due", .glo "_law_right", .glo "law", .free "abs", .free "all", .free "bool", .free "enumerate", .free "int", .free "isinstance", .free "len", .free "list", .free "max", .free "min", .free "range", .free "reversed", .free "sorted", .free "str", .free "sum", .free "tuple", .free "zip"]
abbrev R : PySem.W.OpenRow := PySem.W.OpenLaw.row PySem.Challenge.rw_campcarry_k05_sacks_of_an_amount
abbrev hk : PySem.W.Hook := He.hookD 4 fa fn
def ob (s : PySem.W.SharedT) : He.AlD := He.obsDG 4 fa fn (HandSHeadRun.getT s)
theorem ob_eq (s : PySem.W.SharedT) : ob s = hk.obs s.abs := He.obsDG_eq (HandSHeadRun.getT_eq s)
set_option maxHeartbeats 0 in
theorem run (w : World) : HandSHeadRun.RunEq R (PySem.W.view R.prog [13]) hk ob 3000 ["parcels_of", "_law_box", "_law_take", "_law_folded", "_law_wide", "_law_same", "_law_sizes", "_law_row", "_law_amount", "_law_due", "_law_right"] w := by
  intro os
  kernel_rfl
theorem facts {P : Program} {w : World} {K : PySem.W.Frag} {h : Heap} {mg : Str → Option Value} {f : Addr} (X : K.In h) (G : h.Ns mainGlobals mg) (hfa : mg ("law" : Str) = some (.ref f)) (c : He.SaysD fa fn K) :
    ∃ fd : FuncData, (∀ (s : Shared) (v : Value), BindsTo s fd ⟨[v], []⟩ [("_law_script", v)]) ∧ ∀ base : Heap, K.In base → base.Ns mainGlobals mg → FnOk P w K mg base CX0 7 f fd ["_law_script"] (spLaw K) := by
  obtain ⟨f0, F0⟩ := c.def_ 0 (d := d_parcels_of) rfl
  obtain ⟨f1, F1⟩ := c.def_ 1 (d := d_w_box) rfl
  obtain ⟨f2, F2⟩ := c.def_ 2 (d := d_w_take) rfl
  obtain ⟨f3, F3⟩ := c.def_ 3 (d := d_w_folded) rfl
  obtain ⟨f4, F4⟩ := c.def_ 4 (d := d_w_wide) rfl
  obtain ⟨f5, F5⟩ := c.def_ 5 (d := d_w_same) rfl
  obtain ⟨f6, F6⟩ := c.def_ 6 (d := d_w_sizes) rfl
  obtain ⟨f7, F7⟩ := c.def_ 7 (d := d_w_row) rfl
  obtain ⟨f8, F8⟩ := c.def_ 8 (d := d_w_amount) rfl
  obtain ⟨f9, F9⟩ := c.def_ 9 (d := d_w_due) rfl
  obtain ⟨f10, F10⟩ := c.def_ 10 (d := d_w_right) rfl
  obtain ⟨f11, F11⟩ := c.def_ 11 (d := d_law) rfl
  have e := hfa.symm.trans (He.glo_ok X G (c.fact 11 (f := .glo "law") rfl))
  cases e
  have b := FunD.bindsA (ps := ["_law_script"]) F11 fun _ _ _ _ _ _ us hl => match us, hl with | [_], _ => rfl
  have T : Tx K mg (fun k => ([f0, f1, f2, f3, f4, f5, f6, f7, f8, f9, f10, f11] : List FuncData).getD k f0) := ⟨F0, He.glo_ok X G (c.fact 0 (f := .glo "parcels_of") rfl), F1, He.glo_ok X G (c.fact 1 (f := .glo "_law_box") rfl), F2, He.glo_ok X G (c.fact 2 (f := .glo "_law_take") rfl), F3, He.glo_ok X G (c.fact 3 (f := .glo "_law_folded") rfl), F4, He.glo_ok X G (c.fact 4 (f := .glo "_law_wide") rfl), F5, He.glo_ok X G (c.fact 5 (f := .glo "_law_same") rfl), F6, He.glo_ok X G (c.fact 6 (f := .glo "_law_sizes") rfl), F7, He.glo_ok X G (c.fact 7 (f := .glo "_law_row") rfl), F8, He.glo_ok X G (c.fact 8 (f := .glo "_law_amount") rfl), F9, He.glo_ok X G (c.fact 9 (f := .glo "_law_due") rfl), F10, He.glo_ok X G (c.fact 10 (f := .glo "_law_right") rfl), F11, He.glo_ok X G (c.fact 11 (f := .glo "law") rfl), He.free_ok X G (c.fact 12 (f := .free "abs") rfl), He.free_ok X G (c.fact 13 (f := .free "all") rfl), He.free_ok X G (c.fact 14 (f := .free "bool") rfl), He.free_ok X G (c.fact 15 (f := .free "enumerate") rfl), He.free_ok X G (c.fact 16 (f := .free "int") rfl), He.free_ok X G (c.fact 17 (f := .free "isinstance") rfl), He.free_ok X G (c.fact 18 (f := .free "len") rfl), He.free_ok X G (c.fact 19 (f := .free "list") rfl), He.free_ok X G (c.fact 20 (f := .free "max") rfl), He.free_ok X G (c.fact 21 (f := .free "min") rfl), He.free_ok X G (c.fact 22 (f := .free "range") rfl), He.free_ok X G (c.fact 23 (f := .free "reversed") rfl), He.free_ok X G (c.fact 24 (f := .free "sorted") rfl), He.free_ok X G (c.fact 25 (f := .free "str") rfl), He.free_ok X G (c.fact 26 (f := .free "sum") rfl), He.free_ok X G (c.fact 27 (f := .free "tuple") rfl), He.free_ok X G (c.fact 28 (f := .free "zip") rfl)⟩
  exact ⟨_, fun s v => b s [v] rfl, fun base _ _ => (ok_law T).imp (law_imp law_true)⟩
end Lw
open PySem PySem.W PySem.Calls PyProof.Rows
set_option maxHeartbeats 0 in
theorem PySem.Challenge.cw_campcarry_k05_sacks_of_an_amount_holds : PySem.Challenge.rw_campcarry_k05_sacks_of_an_amount.Holds := by
  w_on; o_law
  refine HandSHeadRun.head_any (r := OpenLaw.row PySem.Challenge.rw_campcarry_k05_sacks_of_an_amount) (q := view (OpenLaw.row PySem.Challenge.rw_campcarry_k05_sacks_of_an_amount).prog [13]) (H := Lw.hk) (ob := Lw.ob) (M := 3000) (loose := ["parcels_of", "_law_box", "_law_take", "_law_folded", "_law_wide", "_law_same", "_law_sizes", "_law_row", "_law_amount", "_law_due", "_law_right"]) (d := HandSHeadRun.topDef (OpenLaw.row PySem.Challenge.rw_campcarry_k05_sacks_of_an_amount).prog 13) (kwd := []) Lw.ob_eq
    (by kernel_rfl) (fun s => by kernel_rfl) Lw.run (by kernel_rfl) (by kernel_rfl) (by kernel_rfl) (by rfl) (by first | assumption | decide +kernel) (by decide +kernel) ⟨rfl, rfl, rfl, rfl, rfl, by decide +kernel⟩ ?hw ?hc
  case hw => w_witness2
  case hc =>
    refine L2.walk_ofE (l := PySem.Challenge.rw_campcarry_k05_sacks_of_an_amount) (n := 63) (k := 7) (x := "_law_script") (CX := L2.CX0) rfl (by decide) (by kernel_rfl) ⟨rfl, by decide, by decide⟩ ?F (fun _ _ _ _ z => z)
    intro w mg fa h Y G hmg0
    obtain ⟨K, KX, c⟩ := Y
    have hmg : mg ("law" : PySem.Str) = some (.ref fa) := by
      have e : (HandSHeadRun.topDef (OpenLaw.row PySem.Challenge.rw_campcarry_k05_sacks_of_an_amount).prog 13).name = ("law" : PySem.Str) := by kernel_rfl
      rw [← e]
      exact hmg0
    obtain ⟨fd, hb, hF⟩ := Lw.facts (P := (PySem.Challenge.rw_campcarry_k05_sacks_of_an_amount).prog) (w := w) KX G hmg c
    exact ⟨K, fd, Cm.spLaw K, KX, hb, fun H a ns hl _ hS => ⟨a, ns, rfl, hS, hl, fun _ => rfl⟩, hF⟩
