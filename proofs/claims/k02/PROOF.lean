import PyProof.Rows.All
import Wide.All
import OpenK.AllK
import Wide.FinOn
import HandS.ForMost
import HandS.HeadHook1
import HandS.Exc
import HandS.Style
import HandS.Defaults
import HandS.IsInst
import HandS.SetFor
import HandS.More
import KE.KStateDown
import HandS.SortInts
import HandS.Conv
import HandS.Steps
import HandS.Zip
import HandS.Strs
import HandS.TupAny
import KE.DataMinMax
import HandS.Iter
import HandS.Dict
import KE.SortKeyHeap
import HandS.DictTup
import KE.KDictWalk
import HandS.SortKw
import HandS.HeadHook2
import HandS.Text
import PyProof.StrBlock2
import HandS.HeadEnd
import KE.GoesNew
import HandS.Wide
import PyProof.Rows.StrRev
import PyProof.SliceStr2
import PyProof.SumAny
import PyProof.SumWalkG
import PyProof.Rows.SeqMore
import HandS.SetKeys
import HandS.Flt
import HandS.Flow
import HandS.Head0
import HandS.Head1
import HandS.Head2
import PySem.Challenge.RW_campcarry_k02_measure_texts_spoilt
import Lean
import HandS.Ends
import HandS.Words
import HandS.WordsExc
set_option Elab.async false
set_option linter.all false
set_option maxRecDepth 100000
set_option maxHeartbeats 40000000
namespace Cm
open PySem L2

theorem same_tup {K : PySem.W.Frag} {H H' : Hp} {a : Addr} {xs : List V} (e : Same H H') (h : SqT K H a xs) : SqT K H' a xs := by
  rcases h with (h | ⟨o, h⟩) | h
  · exact .inl (.inl (e _ _ h))
  · exact .inl (.inr ⟨o, e _ _ h⟩)
  · exact .inr h
theorem same_rd {H H' : Hp} {a : Addr} {u : HO} (e : Same H H') (h : Rd H a u) : Rd H' a u := by
  rcases h with h | ⟨o, h⟩
  · exact .inl (e _ _ h)
  · exact .inr ⟨o, e _ _ h⟩
def keyD : Key → PyData
  | .inl i => .int i
  | .inr x => .str x
mutual
inductive Dv (K : PySem.W.Frag) (H : Hp) : V → PyData → Prop
  | non : Dv K H .non .none
  | bl (b : Bool) : Dv K H (.bl b) (.bool b)
  | int (i : Int) : Dv K H (.int i) (.int i)
  | str (x : Str) : Dv K H (.str x) (.str x)
  | lst {a : Addr} {xs : List V} {ds : List PyData} : H a = some (.lst xs) → DvAll K H xs ds → Dv K H (.ref a) (.list ds)
  | tup {a : Addr} {xs : List V} {ds : List PyData} : SqT K H a xs → DvAll K H xs ds → Dv K H (.ref a) (.tuple ds)
  | dct {a : Addr} {kvs : List (Key × V)} {es : List (PyData × PyData)} : Rd H a (.dK kvs) → DvKv K H kvs es → Dv K H (.ref a) (.dict es)
inductive DvAll (K : PySem.W.Frag) (H : Hp) : List V → List PyData → Prop
  | nil : DvAll K H [] []
  | cons {v : V} {vs : List V} {d : PyData} {ds : List PyData} : Dv K H v d → DvAll K H vs ds → DvAll K H (v :: vs) (d :: ds)
inductive DvKv (K : PySem.W.Frag) (H : Hp) : List (Key × V) → List (PyData × PyData) → Prop
  | nil : DvKv K H [] []
  | cons {k : Key} {v : V} {kvs : List (Key × V)} {d : PyData} {es : List (PyData × PyData)} : Dv K H v d → DvKv K H kvs es → DvKv K H ((k, v) :: kvs) ((keyD k, d) :: es)
end
mutual
theorem Dv.dp {K : PySem.W.Frag} {H : Hp} : ∀ (d : PyData) (v : V), Dv K H v d → d.canLay0 = true → Dp K H v d
  | .none, _, h, _ => by cases h; exact .non
  | .bool b, _, h, _ => by cases h; exact .bl b
  | .int i, _, h, _ => by cases h; exact .int i
  | .str x, _, h, _ => by cases h; exact .str x
  | .list ds, _, h, c => by
    cases h with
    | lst hs ha => exact .lst (SqL.of hs) (DvAll.dp ds _ ha (by simpa [PyData.canLay0] using c))
  | .tuple ds, _, h, c => by
    cases h with
    | tup hs ha => exact .tup hs (DvAll.dp ds _ ha (by simpa [PyData.canLay0] using c))
  | .dict _, _, h, c => by simp [PyData.canLay0] at c
theorem DvAll.dp {K : PySem.W.Frag} {H : Hp} : ∀ (ds : List PyData) (vs : List V), DvAll K H vs ds → PyData.canLayAll0 ds = true → DpAll K H vs ds
  | [], _, h, _ => by cases h; exact .nil
  | d :: ds, _, h, c => by
    have c' : d.canLay0 = true ∧ PyData.canLayAll0 ds = true := by simpa [PyData.canLayAll0] using c
    cases h with
    | cons h1 h2 => exact .cons (Dv.dp d _ h1 c'.1) (DvAll.dp ds _ h2 c'.2)
end
mutual
theorem dv_mono' {K : PySem.W.Frag} {H H' : Hp} (e : Same H H') : ∀ {v : V} {d : PyData}, Dv K H v d → Dv K H' v d
  | _, _, .non => .non
  | _, _, .bl b => .bl b
  | _, _, .int i => .int i
  | _, _, .str x => .str x
  | _, _, .lst h q => .lst (e _ _ h) (dvAll_mono' e q)
  | _, _, .tup h q => .tup (same_tup e h) (dvAll_mono' e q)
  | _, _, .dct h q => .dct (same_rd e h) (dvKv_mono e q)
theorem dvAll_mono' {K : PySem.W.Frag} {H H' : Hp} (e : Same H H') : ∀ {vs : List V} {ds : List PyData}, DvAll K H vs ds → DvAll K H' vs ds
  | _, _, .nil => .nil
  | _, _, .cons h1 h2 => .cons (dv_mono' e h1) (dvAll_mono' e h2)
theorem dvKv_mono {K : PySem.W.Frag} {H H' : Hp} (e : Same H H') : ∀ {vs : List (Key × V)} {ds : List (PyData × PyData)}, DvKv K H vs ds → DvKv K H' vs ds
  | _, _, .nil => .nil
  | _, _, .cons h1 h2 => .cons (dv_mono' e h1) (dvKv_mono e h2)
end
theorem dv_mono {K : PySem.W.Frag} {H H' : Hp} (e : Same H H') (d : PyData) (v : V) (h : Dv K H v d) : Dv K H' v d := dv_mono' e h
theorem dvAll_mono {K : PySem.W.Frag} {H H' : Hp} (e : Same H H') (ds : List PyData) (vs : List V) (h : DvAll K H vs ds) : DvAll K H' vs ds := dvAll_mono' e h
theorem DvAll.len {K : PySem.W.Frag} {H : Hp} : ∀ {vs : List V} {ds : List PyData}, DvAll K H vs ds → vs.length = ds.length
  | _, _, .nil => rfl
  | _, _, .cons _ h => by
    have := DvAll.len h
    simp [this]
theorem DvAll.get {K : PySem.W.Frag} {H : Hp} : ∀ {vs : List V} {ds : List PyData}, DvAll K H vs ds → ∀ (i : Nat) (d : PyData), ds[i]? = some d → ∃ v, vs[i]? = some v ∧ Dv K H v d
  | _, _, .nil, i, d, h => by simp at h
  | _, _, .cons h1 h2, 0, d, h => by
    simp at h
    subst h
    exact ⟨_, rfl, h1⟩
  | _, _, .cons h1 h2, i + 1, d, h => by
    obtain ⟨v, e, q⟩ := DvAll.get h2 i d (by simpa using h)
    exact ⟨v, by simpa using e, q⟩
theorem DvAll.append {K : PySem.W.Frag} {H : Hp} : ∀ {vs ws : List V} {ds es : List PyData}, DvAll K H vs ds → DvAll K H ws es → DvAll K H (vs ++ ws) (ds ++ es)
  | _, _, _, _, .nil, h => h
  | _, _, _, _, .cons h1 h2, h => .cons h1 (DvAll.append h2 h)
theorem DvAll.set {K : PySem.W.Frag} {H : Hp} {v : V} {d : PyData} (q : Dv K H v d) : ∀ {vs : List V} {ds : List PyData} (i : Nat), DvAll K H vs ds → DvAll K H (vs.set i v) (ds.set i d)
  | _, _, _, .nil => .nil
  | _, _, 0, .cons _ h2 => .cons q h2
  | _, _, i + 1, .cons h1 h2 => .cons h1 (DvAll.set q i h2)
theorem DvAll.take {K : PySem.W.Frag} {H : Hp} : ∀ {vs : List V} {ds : List PyData} (n : Nat), DvAll K H vs ds → DvAll K H (vs.take n) (ds.take n)
  | _, _, 0, _ => .nil
  | _, _, _ + 1, .nil => .nil
  | _, _, n + 1, .cons h1 h2 => .cons h1 (DvAll.take n h2)
theorem DvAll.drop {K : PySem.W.Frag} {H : Hp} : ∀ {vs : List V} {ds : List PyData} (n : Nat), DvAll K H vs ds → DvAll K H (vs.drop n) (ds.drop n)
  | _, _, 0, h => h
  | _, _, _ + 1, .nil => .nil
  | _, _, n + 1, .cons h1 h2 => DvAll.drop n h2
structure Kn where
  k : Hp
  P : Nat → Option Addr
instance : CoeFun Kn (fun _ => Addr → Option HO) := ⟨Kn.k⟩
instance : Coe Kn Hp := ⟨Kn.k⟩
def Kn.upd (Hk : Kn) (p : Addr) (o : HO) : Kn := ⟨L2.upd Hk.k p o, Hk.P⟩
structure KSame (a b : Kn) : Prop where
  s : Same a.k b.k
  p : ∀ n x, a.P n = some x → b.P n = some x
theorem KSame.refl (a : Kn) : KSame a a := ⟨Same.refl _, fun _ _ h => h⟩
theorem KSame.trans {a b c : Kn} (h : KSame a b) (g : KSame b c) : KSame a c := ⟨h.s.trans g.s, fun n x q => g.p n x (h.p n x q)⟩
theorem KSame.seq {a b : Kn} (h : KSame a b) {K : PySem.W.Frag} {l : Addr} {xs : List V} (q : SqL K a l xs) : SqL K b l xs := h.s.seq q
theorem KSame.free {a b : Kn} (h : KSame a b) {p : Addr} (q : b p = none) : a p = none := h.s.free q
instance {a b : Kn} : Coe (KSame a b) (Same a.k b.k) := ⟨KSame.s⟩
inductive PV where
  | dat (d : PyData)
  | ref (n : Nat)
  | tup (ps : List PV)
inductive MC where
  | lst (ps : List PV)
  | dct (es : List (PyData × PV))
  | ins (C : Str) (fs : List (Str × PV))
  /-- known as it stands -/
  | kn (c : MC)
  /-- a dict that is known, and locked -/
  | lk (es : List (PyData × PyData))
def MC.live : MC → Prop
  | .kn _ => False
  | .lk _ => False
  | _ => True
def TupZ (Hk : Hp) (a : Addr) (vs : List V) : Prop := ∃ o : Obj, Hk a = some (.frz o (.tup vs)) ∧ o.cls = .type "tuple" ∧ o.dict = none
theorem TupZ.sq {K : PySem.W.Frag} {Hk : Hp} {a : Addr} {vs : List V} (h : TupZ Hk a vs) : SqT K Hk a vs := .inl (.inr ⟨h.choose, h.choose_spec.1⟩)
theorem TupZ.mono {Hk Hk' : Hp} {a : Addr} {vs : List V} (e : Same Hk Hk') (h : TupZ Hk a vs) : TupZ Hk' a vs := let ⟨o, h1, h2⟩ := h; ⟨o, e _ _ h1, h2⟩
mutual
inductive PvOk (K : PySem.W.Frag) (Hk : Kn) : V → PV → Prop
  | dat {v : V} {d : PyData} : Dv K Hk v d → PvOk K Hk v (.dat d)
  | ref {a : Addr} {n : Nat} : Hk.P n = some a → PvOk K Hk (.ref a) (.ref n)
  | tup {a : Addr} {vs : List V} {ps : List PV} : TupZ Hk.k a vs → PvAll K Hk vs ps → PvOk K Hk (.ref a) (.tup ps)
inductive PvAll (K : PySem.W.Frag) (Hk : Kn) : List V → List PV → Prop
  | nil : PvAll K Hk [] []
  | cons {v : V} {vs : List V} {p : PV} {ps : List PV} : PvOk K Hk v p → PvAll K Hk vs ps → PvAll K Hk (v :: vs) (p :: ps)
end
mutual
theorem PvOk.mono {K : PySem.W.Frag} {Hk Hk' : Kn} (e : KSame Hk Hk') : ∀ {v : V} {p : PV}, PvOk K Hk v p → PvOk K Hk' v p
  | _, _, .dat h => .dat (dv_mono e.s _ _ h)
  | _, _, .ref h => .ref (e.p _ _ h)
  | _, _, .tup h q => .tup (h.mono e.s) (PvAll.mono e q)
theorem PvAll.mono {K : PySem.W.Frag} {Hk Hk' : Kn} (e : KSame Hk Hk') : ∀ {vs : List V} {ps : List PV}, PvAll K Hk vs ps → PvAll K Hk' vs ps
  | _, _, .nil => .nil
  | _, _, .cons h1 h2 => .cons (h1.mono e) (PvAll.mono e h2)
end
inductive PvKv (K : PySem.W.Frag) (Hk : Kn) : List (Key × V) → List (PyData × PV) → Prop
  | nil : PvKv K Hk [] []
  | cons {k : Key} {v : V} {kvs : List (Key × V)} {p : PV} {es : List (PyData × PV)} : PvOk K Hk v p → PvKv K Hk kvs es → PvKv K Hk ((k, v) :: kvs) ((keyD k, p) :: es)
inductive PvFs (K : PySem.W.Frag) (Hk : Kn) : List (Str × V) → List (Str × PV) → Prop
  | nil : PvFs K Hk [] []
  | cons {k : Str} {v : V} {kvs : List (Str × V)} {p : PV} {es : List (Str × PV)} : PvOk K Hk v p → PvFs K Hk kvs es → PvFs K Hk ((k, v) :: kvs) ((k, p) :: es)
theorem PvKv.mono {K : PySem.W.Frag} {Hk Hk' : Kn} (e : KSame Hk Hk') : ∀ {vs : List (Key × V)} {ps : List (PyData × PV)}, PvKv K Hk vs ps → PvKv K Hk' vs ps
  | _, _, .nil => .nil
  | _, _, .cons h1 h2 => .cons (h1.mono e) (PvKv.mono e h2)
theorem PvFs.mono {K : PySem.W.Frag} {Hk Hk' : Kn} (e : KSame Hk Hk') : ∀ {vs : List (Str × V)} {ps : List (Str × PV)}, PvFs K Hk vs ps → PvFs K Hk' vs ps
  | _, _, .nil => .nil
  | _, _, .cons h1 h2 => .cons (h1.mono e) (PvFs.mono e h2)
def CellM (K : PySem.W.Frag) (Hk : Kn) (H : Hp) (a : Addr) : MC → Prop
  | .lst ps => ∃ vs, H a = some (.lst vs) ∧ PvAll K Hk vs ps
  | .dct es => ∃ kvs, H a = some (.dK kvs) ∧ PvKv K Hk kvs es
  | .ins C fs => ∃ dx vs, H a = some (.ins (He.ga K C) dx vs) ∧ H dx = some (.own a) ∧ PvFs K Hk vs fs
  | .kn c => CellM K Hk Hk.k a c
  | .lk es => ∃ od kvs, Hk a = some (.frz od (.dK kvs)) ∧ DvKv K Hk kvs es
theorem CellM.mono {K : PySem.W.Frag} {Hk Hk' : Kn} {H H' : Hp} {a : Addr} {c : MC} (h : CellM K Hk H a c) (e : KSame Hk Hk') (k : ∀ o, H a = some o → H' a = some o) (kd : ∀ dx, H dx = some (.own a) → H' dx = some (.own a)) : CellM K Hk' H' a c := by
  cases c with
  | lst ps =>
    obtain ⟨vs, h1, h2⟩ := h
    exact ⟨vs, k _ h1, h2.mono e⟩
  | dct es =>
    obtain ⟨vs, h1, h2⟩ := h
    exact ⟨vs, k _ h1, h2.mono e⟩
  | ins C fs =>
    obtain ⟨dx, vs, h1, h2, h3⟩ := h
    exact ⟨dx, vs, k _ h1, kd _ h2, h3.mono e⟩
  | kn c => exact CellM.mono (c := c) h e (fun o q => e.s _ _ q) fun dx q => e.s _ _ q
  | lk es =>
    obtain ⟨od, kvs, h1, h2⟩ := h
    exact ⟨od, kvs, e.s _ _ h1, dvKv_mono e.s h2⟩
theorem CellM.there {K : PySem.W.Frag} {Hk : Kn} {H : Hp} {a : Addr} {c : MC} (h : CellM K Hk H a c) (l : c.live) : ∃ o, H a = some o ∧ ∀ x, o ≠ .own x := by
  cases c with
  | lst ps =>
    obtain ⟨vs, h1, h2⟩ := h
    exact ⟨_, h1, fun x z => by cases z⟩
  | dct es =>
    obtain ⟨vs, h1, h2⟩ := h
    exact ⟨_, h1, fun x z => by cases z⟩
  | ins C fs =>
    obtain ⟨dx, vs, h1, h2, h3⟩ := h
    exact ⟨_, h1, fun x z => by cases z⟩
  | kn c => cases l
  | lk es => cases l
inductive Cell where
  | lst (ds : List PyData)
  | dct (es : List (PyData × PyData))
def Cell.dat : Cell → PyData
  | .lst ds => .list ds
  | .dct es => .dict es
inductive Slot where
  | no
  | val (d : PyData)
  | own (c : Cell)
  | io (k : Nat) (c : Cell)
  | scr (ns : List Int)
  | pin (k : Nat)
  /-- a value that may hold places of the store -/
  | pv (p : PV)
  /-- the store: the last slot of a frame that has one -/
  | sto (M : List MC)
abbrev Sl := List Slot
inductive Res where
  | dat (d : PyData)
  | new (c : Cell)
  | slt (i : Nat)
  | pv (p : PV)
def Slot.mut : Slot → Prop
  | .own _ => True
  | .io _ _ => True
  | _ => False
def CellAt (K : PySem.W.Frag) (Hk H : Hp) (a : Addr) : Cell → Prop
  | .lst ds => ∃ vs, H a = some (.lst vs) ∧ DvAll K Hk vs ds
  | .dct es => ∃ kvs, H a = some (.dK kvs) ∧ DvKv K Hk kvs es
theorem CellAt.obj {K : PySem.W.Frag} {Hk H : Hp} {a : Addr} {c : Cell} (h : CellAt K Hk H a c) : ∃ o, H a = some o ∧ ∀ Hk' : Hp, Same Hk Hk' → Hk' a = some o → Dv K Hk' (.ref a) c.dat := by
  cases c with
  | lst ds =>
    obtain ⟨vs, h1, h2⟩ := h
    exact ⟨_, h1, fun Hk' e q => .lst q (dvAll_mono e _ _ h2)⟩
  | dct es =>
    obtain ⟨vs, h1, h2⟩ := h
    exact ⟨_, h1, fun Hk' e q => .dct (.inl q) (dvKv_mono e h2)⟩
theorem CellAt.mono {K : PySem.W.Frag} {Hk Hk' H H' : Hp} {a : Addr} {c : Cell} (h : CellAt K Hk H a c) (e : Same Hk Hk') (k : ∀ o, H a = some o → H' a = some o) : CellAt K Hk' H' a c := by
  cases c with
  | lst ds =>
    obtain ⟨vs, h1, h2⟩ := h
    exact ⟨vs, k _ h1, dvAll_mono e _ _ h2⟩
  | dct es =>
    obtain ⟨vs, h1, h2⟩ := h
    exact ⟨vs, k _ h1, dvKv_mono e h2⟩
theorem CellAt.there {K : PySem.W.Frag} {Hk H : Hp} {a : Addr} {c : Cell} (h : CellAt K Hk H a c) : ∃ o, H a = some o := by
  cases c with
  | lst ds =>
    obtain ⟨vs, h1, h2⟩ := h
    exact ⟨_, h1⟩
  | dct es =>
    obtain ⟨vs, h1, h2⟩ := h
    exact ⟨_, h1⟩

structure Fb where
  K0 : Kn
  H0 : Hp
  A : Nat → Option Addr
  P : Nat → Option Addr
  /-- the store's cells that stood at the beginning -/
  S : Addr → Prop := fun _ => False
def Fb.io (B : Fb) (a : Addr) : Prop := (∃ k, B.A k = some a) ∨ B.S a
def SlotOk (K : PySem.W.Frag) (B : Fb) (Hk : Kn) (H : Hp) (s : Slot) (o : Option V) : Prop := match s with
  | .no => True
  | .val d => ∃ v, o = some v ∧ Dv K Hk v d
  | .own c => ∃ a, o = some (.ref a) ∧ Hk a = none ∧ B.H0 a = none ∧ CellAt K Hk H a c
  | .io k c => ∃ a, o = some (.ref a) ∧ Hk a = none ∧ B.A k = some a ∧ CellAt K Hk H a c
  | .scr ns => ∃ a, o = some (.ref a) ∧ SqL K Hk a (ns.map V.int)
  | .pin k => ∃ a, o = some (.ref a) ∧ B.P k = some a
  | .pv p => ∃ v, o = some v ∧ PvOk K Hk v p
  | .sto _ => True
structure StoOk (K : PySem.W.Frag) (B : Fb) (Hk : Kn) (H : Hp) (M : List MC) : Prop where
  cel : ∀ (n : Nat) c, M[n]? = some c → ∃ a, Hk.P n = some a ∧ CellM K Hk H a c ∧ (c.live → Hk a = none)
  inj : ∀ (n m : Nat) a, Hk.P n = some a → Hk.P m = some a → n = m
  top : ∀ (n : Nat), M.length ≤ n → Hk.P n = none
def HasSto (env : Sl) (M : List MC) : Prop := env[env.length - 1]? = some (.sto M)
structure Rel (K : PySem.W.Frag) (B : Fb) (env : Sl) (σ : St) (Hk : Kn) (H : Hp) : Prop where
  ex : Same Hk H
  kn : KSame B.K0 Hk
  fr : ∀ a, Hk a ≠ none → B.K0 a = none → B.H0 a = none
  kp : ∀ a o, B.H0 a = some o → ¬ B.io a → H a = some o
  oin : ∀ a, B.io a → H a ≠ none ∧ Hk a = none
  o0 : ∀ a, B.io a → B.H0 a ≠ none
  len : env.length = σ.length
  slot : ∀ (i : Nat) s, env[i]? = some s → ∃ o, σ[i]? = some o ∧ SlotOk K B Hk H s o
  sep : ∀ (i j : Nat) s t a, env[i]? = some s → env[j]? = some t → s.mut → t.mut → σ[i]? = some (some (V.ref a)) → σ[j]? = some (some (V.ref a)) → i = j
  sok : ∀ M, HasSto env M → StoOk K B Hk H M
  pin : ∀ (n : Nat) a, Hk.P n = some a → H a ≠ none ∧ (Hk a = none → B.H0 a = none ∨ B.io a)
  psep : ∀ (i : Nat) s a (n : Nat), env[i]? = some s → s.mut → σ[i]? = some (some (V.ref a)) → Hk.P n ≠ some a
def ResOk (K : PySem.W.Frag) (B : Fb) (env : Sl) (σ : St) (Hk : Kn) (H : Hp) (r : Res) (v : V) : Prop := match r with
  | .dat d => Dv K Hk v d
  | .new c => ∃ a, v = .ref a ∧ Hk a = none ∧ B.H0 a = none ∧ CellAt K Hk H a c ∧ (∀ (n : Nat), Hk.P n ≠ some a) ∧ ∀ (j : Nat) s, env[j]? = some s → s.mut → σ[j]? ≠ some (some (V.ref a))
  | .slt i => σ[i]? = some (some v)
  | .pv p => PvOk K Hk v p

section
variable {K : PySem.W.Frag} {B : Fb} {env : Sl} {σ : St} {Hk Hk' : Kn} {H H' : Hp}
theorem ne_none {H : Hp} {a : Addr} {o : HO} (h : H a = some o) : H a ≠ none := by rw [h]; exact fun z => nomatch z
theorem CellM.known {K : PySem.W.Frag} {Hk : Kn} : ∀ {c : MC} {H : Hp} {a : Addr}, CellM K Hk H a c → ¬ c.live → Hk a ≠ none
  | .lst _, _, _, _, n => absurd trivial n
  | .dct _, _, _, _, n => absurd trivial n
  | .ins _ _, _, _, _, n => absurd trivial n
  | .lk _, _, _, ⟨_, _, h, _⟩, _ => ne_none h
  | .kn (.lst _), _, _, ⟨_, h, _⟩, _ => ne_none h
  | .kn (.dct _), _, _, ⟨_, h, _⟩, _ => ne_none h
  | .kn (.ins _ _), _, _, ⟨_, _, h, _⟩, _ => ne_none h
  | .kn (.lk _), _, _, ⟨_, _, h, _⟩, _ => ne_none h
  | .kn (.kn c), _, a, h, _ => CellM.known (c := .kn c) (H := Hk.k) (a := a) h fun z => z
theorem StoOk.mono {M : List MC} (S : StoOk K B Hk H M) (e : Same Hk Hk') (hP : Hk'.P = Hk.P) (u : ∀ n a, Hk.P n = some a → Hk a = none → Hk' a = none) (k : ∀ a o, (∃ n, Hk.P n = some a) → H a = some o → H' a = some o) (kd : ∀ dx a, H dx = some (.own a) → H' dx = some (.own a)) : StoOk K B Hk' H' M where
  cel := fun n c h => by
    obtain ⟨a, h1, h2, h3⟩ := S.cel n c h
    refine ⟨a, by rw [hP]; exact h1, h2.mono ⟨e, fun n x q => by rw [hP]; exact q⟩ (fun o => k a o ⟨n, h1⟩) (fun dx => kd dx a), fun l => u n a h1 (h3 l)⟩
  inj := fun n m a h1 h2 => S.inj n m a (by rw [← hP]; exact h1) (by rw [← hP]; exact h2)
  top := fun n h => by rw [hP]; exact S.top n h
theorem hasSto_set {i : Nat} {s : Slot} {M : List MC} (h : HasSto (env.set i s) M) (hs : ∀ M, s ≠ .sto M) : HasSto env M := by
  unfold HasSto at *
  rw [List.length_set] at h
  by_cases e : i = env.length - 1
  · subst e
    by_cases hl : env.length - 1 < env.length
    · rw [List.getElem?_set_self hl] at h
      exact absurd (Option.some.inj h) (hs M)
    · rw [List.getElem?_eq_none (by rw [List.length_set]; omega)] at h
      cases h
  · rw [List.getElem?_set_ne e] at h
    exact h
theorem Rel.grow (R : Rel K B env σ Hk H) (e : Same Hk Hk') (e' : Same Hk' H') (s : Same H H') (f : ∀ a, Hk' a ≠ none → Hk a = none → H a = none) (hP : Hk'.P = Hk.P := by rfl) : Rel K B env σ Hk' H' where
  ex := e'
  kn := R.kn.trans ⟨e, fun n x q => by rw [hP]; exact q⟩
  fr := fun a h1 h2 => by
    by_cases q : Hk a = none
    · have hn := f a h1 q
      cases hb : B.H0 a with
      | none => rfl
      | some o =>
        by_cases ho : B.io a
        · exact absurd hn (R.oin a ho).1
        · rw [R.kp a o hb ho] at hn
          cases hn
    · exact R.fr a q h2
  kp := fun a o h1 h2 => s a o (R.kp a o h1 h2)
  oin := fun a h => by
    obtain ⟨h1, h2⟩ := R.oin a h
    obtain ⟨o, ho⟩ := Option.ne_none_iff_exists'.mp h1
    refine ⟨ne_none (s a o ho), ?_⟩
    cases q : Hk' a with
    | none => rfl
    | some u => exact absurd (f a (ne_none q) h2) h1
  o0 := R.o0
  len := R.len
  slot := fun i t h => by
    obtain ⟨o, h1, h2⟩ := R.slot i t h
    refine ⟨o, h1, ?_⟩
    have fresh : ∀ a c, Hk a = none → CellAt K Hk H a c → Hk' a = none := fun a c z w => by
      obtain ⟨u, hu⟩ := w.there
      cases q : Hk' a with
      | none => rfl
      | some x => exact absurd (f a (ne_none q) z) (ne_none hu)
    cases t with
    | no => trivial
    | sto M => trivial
    | val d =>
      obtain ⟨v, e1, q⟩ := h2
      exact ⟨v, e1, dv_mono e d v q⟩
    | scr ns =>
      obtain ⟨a, e1, q⟩ := h2
      exact ⟨a, e1, e.seq q⟩
    | pin a => exact h2
    | pv p =>
      obtain ⟨v, e1, q⟩ := h2
      exact ⟨v, e1, q.mono ⟨e, fun n x q => by rw [hP]; exact q⟩⟩
    | own c =>
      obtain ⟨a, e1, q1, q2, q3⟩ := h2
      exact ⟨a, e1, fresh a c q1 q3, q2, q3.mono e fun o => s a o⟩
    | io k c =>
      obtain ⟨a, e1, q1, q2, q3⟩ := h2
      exact ⟨a, e1, fresh a c q1 q3, q2, q3.mono e fun o => s a o⟩
  sep := R.sep
  sok := fun M h => (R.sok M h).mono e hP (fun n a h1 h2 => by
    cases q : Hk' a with
    | none => rfl
    | some x => exact absurd (f a (ne_none q) h2) (R.pin n a h1).1) (fun a o _ => s a o) fun dx a => s dx _
  pin := fun n a h => by
    obtain ⟨h1, h2⟩ := R.pin n a (by rw [← hP]; exact h)
    obtain ⟨o, ho⟩ := Option.ne_none_iff_exists'.mp h1
    exact ⟨ne_none (s a o ho), fun z => h2 (e.free z)⟩
  psep := fun i t a n h1 h2 h3 => by rw [hP]; exact R.psep i t a n h1 h2 h3
theorem Rel.fresh0 (R : Rel K B env σ Hk H) {p : Addr} (h : H p = none) : B.H0 p = none := by
  cases hb : B.H0 p with
  | none => rfl
  | some o =>
    by_cases ho : B.io p
    · exact absurd h (R.oin p ho).1
    · rw [R.kp p o hb ho] at h
      cases h
theorem same_upd {H : Hp} {p : Addr} {o : HO} (h : H p = none) : Same H (upd H p o) := fun b x e => by
  rw [upd_ne (ne_of_none e h)]
  exact e
theorem ksame_upd {Hk : Kn} {p : Addr} {o : HO} (h : Hk p = none) : KSame Hk (Hk.upd p o) := ⟨same_upd h, fun _ _ q => q⟩
theorem Rel.kfree (R : Rel K B env σ Hk H) {p : Addr} (h : H p = none) : Hk p = none := R.ex.free h
theorem Rel.pfree (R : Rel K B env σ Hk H) {p : Addr} (h : H p = none) (n : Nat) : Hk.P n ≠ some p := fun e => (R.pin n p e).1 h
theorem Rel.laid (R : Rel K B env σ Hk H) {p : Addr} {o : HO} (h : H p = none) : Rel K B env σ Hk (upd H p o) :=
  R.grow (Same.refl _) (R.ex.trans (same_upd h)) (same_upd h) fun a h1 h2 => absurd h2 h1
theorem upd_known {H : Hp} {p a : Addr} {o : HO} (h : upd H p o a ≠ none) (h2 : H a = none) : a = p := by
  by_cases e : a = p
  · exact e
  · rw [upd_ne e] at h
    exact absurd h2 h
theorem Rel.laidK (R : Rel K B env σ Hk H) {p : Addr} {o : HO} (h : H p = none) : Rel K B env σ (Hk.upd p o) (upd H p o) :=
  R.grow (Hk' := Hk.upd p o) (same_upd (R.kfree h)) (fun b x e => by
    have e : upd Hk.k p o b = some x := e
    by_cases hb : b = p
    · subst hb
      rw [upd_same] at e ⊢
      exact e
    · rw [upd_ne hb] at e ⊢
      exact R.ex _ _ e) (same_upd h) fun a h1 h2 => by
    rw [upd_known (H := Hk.k) h1 h2]
    exact h
theorem Rel.mutNe (R : Rel K B env σ Hk H) {p : Addr} (h : H p = none) {j : Nat} {s : Slot} (hs : env[j]? = some s) (hm : s.mut) : σ[j]? ≠ some (some (V.ref p)) := fun e => by
  obtain ⟨o, h1, h2⟩ := R.slot j s hs
  rw [e] at h1
  cases h1
  cases s with
  | own c =>
    obtain ⟨a, e1, q1, q2, q3⟩ := h2
    obtain ⟨u, hu⟩ := q3.there
    cases e1
    rw [h] at hu
    cases hu
  | io k c =>
    obtain ⟨a, e1, q1, q2, q3⟩ := h2
    obtain ⟨u, hu⟩ := q3.there
    cases e1
    rw [h] at hu
    cases hu
  | _ => cases hm

def Out (K : PySem.W.Frag) (Hk H : Hp) (r : Res) (v : V) (H' : Hp) : Prop := match r with
  | .dat d => (H' = H ∧ Dv K Hk v d) ∨ ∃ p vs ds, d = .tuple ds ∧ v = .ref p ∧ H p = none ∧ H' = upd H p (.tup vs) ∧ DvAll K Hk vs ds
  | .new (.lst ds) => ∃ p vs, v = .ref p ∧ H p = none ∧ H' = upd H p (.lst vs) ∧ DvAll K Hk vs ds
  | .new (.dct es) => ∃ p kvs, v = .ref p ∧ H p = none ∧ H' = upd H p (.dK kvs) ∧ DvKv K Hk kvs es
  | _ => False
theorem Rel.out (R : Rel K B env σ Hk H) {r : Res} {v : V} (o : Out K Hk H r v H') : ∃ Hk' : Kn, Rel K B env σ Hk' H' ∧ KSame Hk Hk' ∧ ResOk K B env σ Hk' H' r v := by
  cases r with
  | dat d =>
    rcases o with ⟨rfl, q⟩ | ⟨p, vs, ds, rfl, rfl, hp, rfl, q⟩
    · exact ⟨Hk, R, KSame.refl _, q⟩
    · refine ⟨Hk.upd p (.tup vs), R.laidK hp, ksame_upd (R.kfree hp), ?_⟩
      exact .tup (SqT.of (show upd Hk.k p _ p = _ from upd_same)) (dvAll_mono (same_upd (R.kfree hp)) _ _ q)
  | new c =>
    cases c with
    | lst ds =>
      obtain ⟨p, vs, rfl, hp, rfl, q⟩ := o
      exact ⟨Hk, R.laid hp, KSame.refl _, p, rfl, R.kfree hp, R.fresh0 hp, ⟨vs, upd_same, q⟩, R.pfree hp, fun j s h1 h2 => R.mutNe hp h1 h2⟩
    | dct es =>
      obtain ⟨p, vs, rfl, hp, rfl, q⟩ := o
      exact ⟨Hk, R.laid hp, KSame.refl _, p, rfl, R.kfree hp, R.fresh0 hp, ⟨vs, upd_same, q⟩, R.pfree hp, fun j s h1 h2 => R.mutNe hp h1 h2⟩
  | slt i => exact False.elim o
  | pv p => exact False.elim o
theorem Rel.know (R : Rel K B env σ Hk H) {p : Addr} {ob : HO} (h : H p = some ob) (hk : Hk p = none) (h0 : B.H0 p = none) (hP : ∀ (n : Nat), Hk.P n ≠ some p)
    (hn : ∀ (j : Nat) s, env[j]? = some s → s.mut → σ[j]? ≠ some (some (V.ref p))) : Rel K B env σ (Hk.upd p ob) H where
  ex := fun b x e => by
    have e : upd Hk.k p ob b = some x := e
    by_cases hb : b = p
    · subst hb
      rw [upd_same] at e
      cases e
      exact h
    · rw [upd_ne hb] at e
      exact R.ex _ _ e
  kn := R.kn.trans (ksame_upd hk)
  fr := fun a h1 h2 => by
    by_cases hb : a = p
    · rw [hb]
      exact h0
    · have h1 : upd Hk.k p ob a ≠ none := h1
      rw [upd_ne hb] at h1
      exact R.fr a h1 h2
  kp := R.kp
  oin := fun a ha => by
    refine ⟨(R.oin a ha).1, ?_⟩
    have ne : a ≠ p := fun e => R.o0 a ha (by rw [e]; exact h0)
    show upd Hk.k p ob a = none
    rw [upd_ne ne]
    exact (R.oin a ha).2
  o0 := R.o0
  len := R.len
  slot := fun i t hi => by
    obtain ⟨o, h1, h2⟩ := R.slot i t hi
    refine ⟨o, h1, ?_⟩
    have sm : Same Hk.k (upd Hk.k p ob) := same_upd hk
    cases t with
    | no => trivial
    | sto M => trivial
    | val d =>
      obtain ⟨v, e1, q⟩ := h2
      exact ⟨v, e1, dv_mono sm d v q⟩
    | scr ns =>
      obtain ⟨a, e1, q⟩ := h2
      exact ⟨a, e1, sm.seq q⟩
    | pin a => exact h2
    | pv p =>
      obtain ⟨v, e1, q⟩ := h2
      exact ⟨v, e1, q.mono (ksame_upd hk)⟩
    | own c =>
      obtain ⟨a, e1, q1, q2, q3⟩ := h2
      have ne : a ≠ p := fun z => by
        subst e1 z
        exact hn i _ hi trivial h1
      exact ⟨a, e1, by show upd Hk.k p ob a = none; rw [upd_ne ne]; exact q1, q2, q3.mono sm fun o z => z⟩
    | io k c =>
      obtain ⟨a, e1, q1, q2, q3⟩ := h2
      have ne : a ≠ p := fun z => by
        subst e1 z
        exact hn i _ hi trivial h1
      exact ⟨a, e1, by show upd Hk.k p ob a = none; rw [upd_ne ne]; exact q1, q2, q3.mono sm fun o z => z⟩
  sep := R.sep
  sok := fun M h => (R.sok M h).mono (same_upd hk) rfl (fun n a h1 h2 => by
    have ne : a ≠ p := fun z => hP n (z ▸ h1)
    show upd Hk.k p ob a = none
    rw [upd_ne ne]
    exact h2) (fun _ _ _ z => z) fun _ _ z => z
  pin := fun n a h => by
    refine ⟨(R.pin n a h).1, fun z => (R.pin n a h).2 ?_⟩
    have z : upd Hk.k p ob a = none := z
    have ne : a ≠ p := fun e => by rw [e, upd_same] at z; cases z
    rw [upd_ne ne] at z
    exact z
  psep := R.psep
theorem set_get {α : Type} {l : List α} {i j : Nat} {x y : α} (h : (l.set i x)[j]? = some y) : (j = i ∧ y = x) ∨ (j ≠ i ∧ l[j]? = some y) := by
  by_cases e : i = j
  · subst e
    by_cases hl : i < l.length
    · rw [List.getElem?_set_self hl] at h
      exact .inl ⟨rfl, (Option.some.inj h).symm⟩
    · rw [List.getElem?_eq_none (by rw [List.length_set]; omega)] at h
      cases h
  · rw [List.getElem?_set_ne e] at h
    exact .inr ⟨fun z => e z.symm, h⟩
theorem Rel.less (R : Rel K B env σ Hk H) {i : Nat} {s : Slot} (ns : ¬ s.mut) (hs : ∀ M, s ≠ .sto M) (h : ∀ o, σ[i]? = some o → SlotOk K B Hk H s o) : Rel K B (env.set i s) σ Hk H where
  ex := R.ex
  kn := R.kn
  fr := R.fr
  kp := R.kp
  oin := R.oin
  o0 := R.o0
  len := by rw [List.length_set]; exact R.len
  slot := fun j t hj => by
    rcases set_get hj with ⟨rfl, rfl⟩ | ⟨hne, hj'⟩
    · have hl : j < σ.length := by
        have := (List.getElem?_eq_some_iff.mp hj).1
        rw [List.length_set] at this
        rw [← R.len]
        exact this
      exact ⟨_, List.getElem?_eq_getElem hl, h _ (List.getElem?_eq_getElem hl)⟩
    · exact R.slot j t hj'
  sep := fun j k s t b hj hk ms mt g1 g2 => by
    rcases set_get hj with ⟨rfl, rfl⟩ | ⟨_, hj⟩
    · exact absurd ms ns
    · rcases set_get hk with ⟨rfl, rfl⟩ | ⟨_, hk⟩
      · exact absurd mt ns
      · exact R.sep j k s t b hj hk ms mt g1 g2
  sok := fun M h => R.sok M (hasSto_set h hs)
  pin := R.pin
  psep := fun j s a n hj ms g => by
    rcases set_get hj with ⟨rfl, rfl⟩ | ⟨_, hj⟩
    · exact absurd ms ns
    · exact R.psep j s a n hj ms g
theorem Rel.freezeC (R : Rel K B env σ Hk H) {i : Nat} {c : Cell} (h : env[i]? = some (.own c)) :
    ∃ a, ∃ Hk' : Kn, σ[i]? = some (some (V.ref a)) ∧ Rel K B (env.set i (.val c.dat)) σ Hk' H ∧ KSame Hk Hk' ∧ Dv K Hk' (.ref a) c.dat := by
  obtain ⟨o, h1, a, rfl, q1, q2, qc⟩ := R.slot i _ h
  obtain ⟨ob, q3, q4⟩ := qc.obj
  have sm : KSame Hk (Hk.upd a ob) := ksame_upd q1
  have dp : Dv K (Hk.upd a ob) (.ref a) c.dat := q4 _ sm.s upd_same
  have R1 : Rel K B (env.set i .no) σ Hk H := R.less (fun z => z) (fun M z => by cases z) fun o _ => trivial
  have R2 := R1.know q3 q1 q2 (fun n => R.psep i _ a n h trivial h1) fun j s hj hm e => by
    rcases set_get hj with ⟨rfl, rfl⟩ | ⟨ne, hj⟩
    · cases hm
    · exact ne (R.sep j i s _ a hj h hm trivial e h1)
  have R3 := R2.less (i := i) (s := .val c.dat) (fun z => z) (fun M z => by cases z) fun o ho => by
    rw [h1] at ho
    cases ho
    exact ⟨_, rfl, dp⟩
  rw [List.set_set] at R3
  exact ⟨a, _, h1, R3, sm, dp⟩
theorem Rel.setW (R : Rel K B env σ Hk H) {i : Nat} {s : Slot} {o : Option V} (ns : ¬ s.mut) (hs : ∀ M, s ≠ .sto M) (h : SlotOk K B Hk H s o) : Rel K B (env.set i s) (σ.set i o) Hk H where
  ex := R.ex
  kn := R.kn
  fr := R.fr
  kp := R.kp
  oin := R.oin
  o0 := R.o0
  len := by rw [List.length_set, List.length_set]; exact R.len
  slot := fun j t hj => by
    rcases set_get hj with ⟨rfl, rfl⟩ | ⟨hne, hj'⟩
    · have hl : j < σ.length := by
        have := (List.getElem?_eq_some_iff.mp hj).1
        rw [List.length_set] at this
        rw [← R.len]
        exact this
      exact ⟨o, by rw [List.getElem?_set_self hl], h⟩
    · obtain ⟨o, g1, g2⟩ := R.slot j t hj'
      exact ⟨o, by rw [List.getElem?_set_ne (fun z => hne z.symm)]; exact g1, g2⟩
  sep := fun j k s t b hj hk ms mt g1 g2 => by
    rcases set_get hj with ⟨rfl, rfl⟩ | ⟨n1, hj⟩
    · exact absurd ms ns
    · rcases set_get hk with ⟨rfl, rfl⟩ | ⟨n2, hk⟩
      · exact absurd mt ns
      · rw [List.getElem?_set_ne (fun z => n1 z.symm)] at g1
        rw [List.getElem?_set_ne (fun z => n2 z.symm)] at g2
        exact R.sep j k s t b hj hk ms mt g1 g2
  sok := fun M h => R.sok M (hasSto_set h hs)
  pin := R.pin
  psep := fun j s a n hj ms g => by
    rcases set_get hj with ⟨rfl, rfl⟩ | ⟨n1, hj⟩
    · exact absurd ms ns
    · rw [List.getElem?_set_ne (fun z => n1 z.symm)] at g
      exact R.psep j s a n hj ms g
theorem Rel.setVal (R : Rel K B env σ Hk H) {i : Nat} {v : V} {d : PyData} (h : Dv K Hk v d) : Rel K B (env.set i (.val d)) (σ.set i (some v)) Hk H := R.setW (fun z => z) (fun M z => by cases z) ⟨v, rfl, h⟩
theorem Rel.setPv (R : Rel K B env σ Hk H) {i : Nat} {v : V} {p : PV} (h : PvOk K Hk v p) : Rel K B (env.set i (.pv p)) (σ.set i (some v)) Hk H := R.setW (fun z => z) (fun M z => by cases z) ⟨v, rfl, h⟩
theorem Rel.setNo (R : Rel K B env σ Hk H) {i : Nat} {o : Option V} : Rel K B (env.set i .no) (σ.set i o) Hk H := R.setW (fun z => z) (fun M z => by cases z) trivial
theorem Rel.setOwn (R : Rel K B env σ Hk H) {i : Nat} {a : Addr} {c : Cell} (h1 : Hk a = none) (h2 : B.H0 a = none) (h3 : CellAt K Hk H a c) (h5 : ∀ (n : Nat), Hk.P n ≠ some a) (h4 : ∀ (j : Nat) s, env[j]? = some s → s.mut → σ[j]? ≠ some (some (V.ref a))) :
    Rel K B (env.set i (.own c)) (σ.set i (some (V.ref a))) Hk H where
  ex := R.ex
  kn := R.kn
  fr := R.fr
  kp := R.kp
  oin := R.oin
  o0 := R.o0
  len := by rw [List.length_set, List.length_set]; exact R.len
  slot := fun j t hj => by
    rcases set_get hj with ⟨rfl, rfl⟩ | ⟨hne, hj'⟩
    · have hl : j < σ.length := by
        have := (List.getElem?_eq_some_iff.mp hj).1
        rw [List.length_set] at this
        rw [← R.len]
        exact this
      exact ⟨some (.ref a), by rw [List.getElem?_set_self hl], a, rfl, h1, h2, h3⟩
    · obtain ⟨o, g1, g2⟩ := R.slot j t hj'
      exact ⟨o, by rw [List.getElem?_set_ne (fun z => hne z.symm)]; exact g1, g2⟩
  sep := fun j k s t b hj hk ms mt g1 g2 => by
    rcases set_get hj with ⟨rfl, rfl⟩ | ⟨n1, hj2⟩
    · rcases set_get hk with ⟨rfl, rfl⟩ | ⟨n2, hk⟩
      · rfl
      · rw [List.getElem?_set_ne (fun z => n2 z.symm)] at g2
        rcases set_get g1 with ⟨_, e⟩ | ⟨z, _⟩
        · cases e
          exact absurd g2 (h4 k t hk mt)
        · exact absurd rfl z
    · rw [List.getElem?_set_ne (fun z => n1 z.symm)] at g1
      rcases set_get hk with ⟨rfl, rfl⟩ | ⟨n2, hk⟩
      · rcases set_get g2 with ⟨_, e⟩ | ⟨z, _⟩
        · cases e
          exact absurd g1 (h4 j s hj2 ms)
        · exact absurd rfl z
      · rw [List.getElem?_set_ne (fun z => n2 z.symm)] at g2
        exact R.sep j k s t b hj2 hk ms mt g1 g2
  sok := fun M h => R.sok M (hasSto_set h (fun M z => by cases z))
  pin := R.pin
  psep := fun j s b n hj ms g => by
    rcases set_get hj with ⟨rfl, rfl⟩ | ⟨n1, hj⟩
    · rcases set_get g with ⟨_, e⟩ | ⟨z, _⟩
      · cases e
        exact h5 n
      · exact absurd rfl z
    · rw [List.getElem?_set_ne (fun z => n1 z.symm)] at g
      exact R.psep j s b n hj ms g
def Slot.put : Slot → Cell → Slot
  | .own _, c => .own c
  | .io k _, c => .io k c
  | s, _ => s
theorem Slot.put_sto {s : Slot} {c : Cell} (hm : s.mut) : ∀ M, s.put c ≠ .sto M := fun M z => by
  cases s with
  | own c => cases z
  | io k c => cases z
  | _ => cases hm
theorem Rel.change (R : Rel K B env σ Hk H) {i : Nat} {s : Slot} {c' : Cell} {a : Addr} {o' : HO} (hs : env[i]? = some s) (hm : s.mut) (ha : σ[i]? = some (some (V.ref a))) (h3 : CellAt K Hk (upd H a o') a c') :
    Rel K B (env.set i (s.put c')) σ Hk (upd H a o') := by
  obtain ⟨o, h1, h2⟩ := R.slot i s hs
  rw [ha] at h1
  cases h1
  have hk : Hk a = none := by
    cases s with
    | own c => obtain ⟨b, e1, q1, _⟩ := h2; cases e1; exact q1
    | io k c => obtain ⟨b, e1, q1, _⟩ := h2; cases e1; exact q1
    | _ => cases hm
  have h0 : B.H0 a = none ∨ B.io a := by
    cases s with
    | own c => obtain ⟨b, e1, _, q1, _⟩ := h2; cases e1; exact .inl q1
    | io k c => obtain ⟨b, e1, _, q1, _⟩ := h2; cases e1; exact .inr (.inl ⟨k, q1⟩)
    | _ => cases hm
  have hob : ∃ u, H a = some u ∧ ∀ x, u ≠ .own x := by
    have fin : ∀ c, CellAt K Hk H a c → ∃ u, H a = some u ∧ ∀ x, u ≠ .own x := fun c hc => by
      cases c with
      | lst ds =>
        obtain ⟨vs, g1, _⟩ := hc
        exact ⟨_, g1, fun x z => by cases z⟩
      | dct ds =>
        obtain ⟨vs, g1, _⟩ := hc
        exact ⟨_, g1, fun x z => by cases z⟩
    cases s with
    | own c => obtain ⟨b, e1, _, _, q⟩ := h2; cases e1; exact fin c q
    | io k c => obtain ⟨b, e1, _, _, q⟩ := h2; cases e1; exact fin c q
    | _ => cases hm
  refine ⟨?_, R.kn, R.fr, ?_, ?_, R.o0, ?_, ?_, ?_, fun M h => ?_, fun n b h => ?_, ?_⟩
  · intro b x e
    have hb : b ≠ a := fun z => by rw [z, hk] at e; cases e
    rw [upd_ne hb]
    exact R.ex _ _ e
  · intro b x e hO
    have hb : b ≠ a := fun z => by
      subst z
      rcases h0 with z | z
      · rw [z] at e; cases e
      · exact hO z
    rw [upd_ne hb]
    exact R.kp b x e hO
  · intro b hb
    refine ⟨?_, (R.oin b hb).2⟩
    by_cases e : b = a
    · rw [e, upd_same]
      exact fun z => nomatch z
    · rw [upd_ne e]
      exact (R.oin b hb).1
  · rw [List.length_set]
    exact R.len
  · intro j t hj
    rcases set_get hj with ⟨rfl, rfl⟩ | ⟨hne, hj⟩
    · refine ⟨_, ha, ?_⟩
      cases s with
      | own c => obtain ⟨b, e1, q1, q2, _⟩ := h2; cases e1; exact ⟨a, rfl, q1, q2, h3⟩
      | io k c => obtain ⟨b, e1, q1, q2, _⟩ := h2; cases e1; exact ⟨a, rfl, q1, q2, h3⟩
      | _ => cases hm
    · obtain ⟨o, g1, g2⟩ := R.slot j t hj
      refine ⟨o, g1, ?_⟩
      have nea : ∀ b, t.mut → o = some (.ref b) → b ≠ a := fun b hmt e z => by
        subst e z
        exact hne (R.sep j i t s b hj hs hmt hm g1 ha)
      cases t with
      | own c =>
        obtain ⟨b, e1, z1, z2, z3⟩ := g2
        exact ⟨b, e1, z1, z2, z3.mono (Same.refl _) fun o z => by rw [upd_ne (nea b trivial e1)]; exact z⟩
      | io k c =>
        obtain ⟨b, e1, z1, z2, z3⟩ := g2
        exact ⟨b, e1, z1, z2, z3.mono (Same.refl _) fun o z => by rw [upd_ne (nea b trivial e1)]; exact z⟩
      | _ => exact g2
  · have pm : ∀ {t : Slot} {c : Cell}, (t.put c).mut → t.mut := fun {t c} z => by
      cases t <;> exact z
    intro j k s1 t1 b hj hk' ms mt g1 g2
    rcases set_get hj with ⟨rfl, rfl⟩ | ⟨_, hj2⟩
    · rcases set_get hk' with ⟨rfl, rfl⟩ | ⟨_, hk'⟩
      · rfl
      · exact R.sep j k s t1 b hs hk' hm mt g1 g2
    · rcases set_get hk' with ⟨rfl, rfl⟩ | ⟨_, hk'⟩
      · exact R.sep j k s1 s b hj2 hs ms hm g1 g2
      · exact R.sep j k s1 t1 b hj2 hk' ms mt g1 g2
  · refine (R.sok M (hasSto_set h (Slot.put_sto hm))).mono (Same.refl _) rfl (fun _ _ _ z => z) (fun b o ⟨n, hb⟩ z => ?_) fun dx b z => ?_
    · have ne : b ≠ a := fun e => R.psep i s a n hs hm ha (e ▸ hb)
      rw [upd_ne ne]
      exact z
    · have ne : dx ≠ a := fun e => by
        obtain ⟨u, hu, hx⟩ := hob
        rw [e, hu] at z
        exact hx b (Option.some.inj z)
      rw [upd_ne ne]
      exact z
  · refine ⟨?_, (R.pin n b h).2⟩
    by_cases e : b = a
    · rw [e, upd_same]
      exact fun z => nomatch z
    · rw [upd_ne e]
      exact (R.pin n b h).1
  · intro j s1 b n hj ms g
    rcases set_get hj with ⟨rfl, rfl⟩ | ⟨_, hj2⟩
    · exact R.psep j s b n hs hm g
    · exact R.psep j s1 b n hj2 ms g
end
end Cm
namespace Cm
open PySem L2
abbrev ME := Sl → Option (Res × Sl)
abbrev MT := Sl → Option (Bool × Sl)
abbrev MA := Sl → Option (List Res × Sl)
def tE (K : PySem.W.Frag) (m : ME) : TE := fun σ H Q => ∃ B env Hk r env', Rel K B env σ Hk H ∧ m env = some (r, env') ∧
  ∀ v Hk' H', Rel K B env' σ Hk' H' → KSame Hk Hk' → ResOk K B env' σ Hk' H' r v → Q v H'
def tT (K : PySem.W.Frag) (m : MT) : TT := fun σ H Q => ∃ B env Hk b env', Rel K B env σ Hk H ∧ m env = some (b, env') ∧
  ∀ Hk' H', Rel K B env' σ Hk' H' → KSame Hk Hk' → Q b H'
def stab : Res → Res
  | .new c => .dat c.dat
  | r => r
def RsOk (K : PySem.W.Frag) (σ : St) (Hk : Kn) (r : Res) (v : V) : Prop := match r with
  | .dat d => Dv K Hk v d
  | .slt i => σ[i]? = some (some v)
  | .pv p => PvOk K Hk v p
  | .new _ => False
inductive RsAll (K : PySem.W.Frag) (σ : St) (Hk : Kn) : List Res → List V → Prop
  | nil : RsAll K σ Hk [] []
  | cons {r : Res} {v : V} {rs : List Res} {vs : List V} : RsOk K σ Hk r v → RsAll K σ Hk rs vs → RsAll K σ Hk (r :: rs) (v :: vs)
def tA (K : PySem.W.Frag) (m : MA) : TA := fun σ H Q => ∃ B env Hk rs env', Rel K B env σ Hk H ∧ m env = some (rs, env') ∧
  ∀ vs Hk' H', Rel K B env' σ Hk' H' → KSame Hk Hk' → RsAll K σ Hk' rs vs → Q vs H'
section
variable {K : PySem.W.Frag} {B : Fb} {env : Sl} {σ : St} {Hk Hk' : Kn} {H H' : Hp} {r : Res} {v : V} {d : PyData}
theorem RsOk.mono (e : KSame Hk Hk') (h : RsOk K σ Hk r v) : RsOk K σ Hk' r v := by
  cases r with
  | dat d => exact dv_mono e d v h
  | slt i => exact h
  | new c => exact h
  | pv p => exact PvOk.mono e h
theorem RsAll.mono (e : KSame Hk Hk') : ∀ {rs : List Res} {vs : List V}, RsAll K σ Hk rs vs → RsAll K σ Hk' rs vs
  | _, _, .nil => .nil
  | _, _, .cons h t => .cons (h.mono e) (RsAll.mono e t)
theorem Rel.stab (R : Rel K B env σ Hk H) (h : ResOk K B env σ Hk H r v) : ∃ Hk' : Kn, Rel K B env σ Hk' H ∧ KSame Hk Hk' ∧ RsOk K σ Hk' (stab r) v := by
  cases r with
  | dat d => exact ⟨Hk, R, .refl _, h⟩
  | slt i => exact ⟨Hk, R, .refl _, h⟩
  | pv p => exact ⟨Hk, R, .refl _, h⟩
  | new c =>
    obtain ⟨a, rfl, h1, h2, hc, hP, h5⟩ := h
    obtain ⟨ob, h3, h4⟩ := hc.obj
    exact ⟨Hk.upd a ob, R.know h3 h1 h2 hP h5, ksame_upd h1, h4 _ (same_upd h1) upd_same⟩
def sto (env : Sl) : List MC := match env[env.length - 1]? with
  | some (.sto M) => M
  | _ => []
def datsP : List PV → Option (List PyData)
  | [] => some []
  | .dat d :: ps => (datsP ps).map (d :: ·)
  | _ :: _ => none
def datsK : List (PyData × PV) → Option (List (PyData × PyData))
  | [] => some []
  | (k, .dat d) :: ps => (datsK ps).map ((k, d) :: ·)
  | _ :: _ => none
def PV.rd (M : List MC) : PV → Option PyData
  | .dat d => some d
  | .tup ps => (datsP ps).map .tuple
  | .ref n => match M[n]? with
    | some (.lst ps) => (datsP ps).map .list
    | some (.dct es) => (datsK es).map .dict
    | some (.kn (.lst ps)) => (datsP ps).map .list
    | some (.kn (.dct es)) => (datsK es).map .dict
    | some (.lk es) => some (.dict es)
    | _ => none
theorem datsP_dv {K : PySem.W.Frag} {Hk : Kn} : ∀ {ps : List PV} {vs : List V} {ds : List PyData}, PvAll K Hk vs ps → datsP ps = some ds → DvAll K Hk vs ds
  | [], _, ds, .nil, h => by
    cases h
    exact .nil
  | .dat d :: ps, _, ds, .cons h1 h2, h => by
    obtain ⟨e, h3, rfl⟩ := Option.map_eq_some_iff.mp h
    cases h1 with
    | dat q => exact .cons q (datsP_dv h2 h3)
  | .ref _ :: _, _, _, _, h => by cases h
  | .tup _ :: _, _, _, _, h => by cases h
theorem datsK_dv {K : PySem.W.Frag} {Hk : Kn} : ∀ {ps : List (PyData × PV)} {vs : List (Key × V)} {ds : List (PyData × PyData)}, PvKv K Hk vs ps → datsK ps = some ds → DvKv K Hk vs ds
  | [], _, ds, .nil, h => by
    cases h
    exact .nil
  | (_, .dat d) :: ps, _, ds, .cons h1 h2, h => by
    obtain ⟨e, h3, rfl⟩ := Option.map_eq_some_iff.mp h
    cases h1 with
    | dat q => exact .cons q (datsK_dv h2 h3)
  | (_, .ref _) :: _, _, _, .cons _ _, h => by cases h
  | (_, .tup _) :: _, _, _, .cons _ _, h => by cases h
def PV.kn (M : List MC) : PV → Option PyData
  | .dat d => some d
  | .tup ps => (datsP ps).map .tuple
  | .ref n => match M[n]? with
    | some (.kn (.lst ps)) => (datsP ps).map .list
    | some (.kn (.dct es)) => (datsK es).map .dict
    | some (.lk es) => some (.dict es)
    | _ => none
def rdAllP (f : PV → Option PyData) : List PV → Option (List PyData)
  | [] => some []
  | p :: ps => (f p).bind fun d => (rdAllP f ps).map (d :: ·)
def rdAllK (f : PV → Option PyData) : List (PyData × PV) → Option (List (PyData × PyData))
  | [] => some []
  | p :: ps => (f p.2).bind fun d => (rdAllK f ps).map ((p.1, d) :: ·)
def PV.deep (M : List MC) : Nat → PV → Option PyData
  | _, .dat d => some d
  | 0, _ => none
  | f + 1, .tup ps => (rdAllP (PV.deep M f) ps).map .tuple
  | f + 1, .ref n => match M[n]? with
    | some (.lst ps) => (rdAllP (PV.deep M f) ps).map .list
    | some (.dct es) => (rdAllK (PV.deep M f) es).map .dict
    | some (.kn (.lst ps)) => (rdAllP (PV.deep M f) ps).map .list
    | some (.kn (.dct es)) => (rdAllK (PV.deep M f) es).map .dict
    | some (.lk es) => some (.dict es)
    | _ => none
def rdv (env : Sl) : Res → Option PyData
  | .dat d => some d
  | .pv p => p.rd (sto env)
  | .new _ => none
  | .slt i => match env[i]? with
    | some (.val d) => some d
    | some (.own c) => some c.dat
    | some (.io _ c) => some c.dat
    | _ => none
def View (K : PySem.W.Frag) (Hk H : Hp) (v : V) (d : PyData) : Prop := Dv K Hk v d ∨ ∃ a c, v = .ref a ∧ d = Cell.dat c ∧ CellAt K Hk H a c
theorem Rel.stoAt (R : Rel K B env σ Hk H) {n : Nat} {c : MC} (h : (sto env)[n]? = some c) : HasSto env (sto env) ∧ ∃ a, Hk.P n = some a ∧ CellM K Hk H a c ∧ (c.live → Hk a = none) := by
  have hS : HasSto env (sto env) := by
    unfold sto HasSto at *
    split at h
    · assumption
    · simp at h
  exact ⟨hS, (R.sok _ hS).cel n c h⟩
theorem Rel.knP (R : Rel K B env σ Hk H) {p : PV} (h : PvOk K Hk v p) (e : p.kn (sto env) = some d) : Dv K Hk v d := by
  cases h with
  | dat q =>
    cases e
    exact q
  | tup q1 q2 =>
    obtain ⟨ds, h3, rfl⟩ := Option.map_eq_some_iff.mp e
    exact .tup q1.sq (datsP_dv q2 h3)
  | @ref a n q =>
    unfold PV.kn at e
    simp only at e
    cases hc : (sto env)[n]? with
    | none => simp only [hc] at e; cases e
    | some c =>
      obtain ⟨hS, b, g1, g2, g3⟩ := R.stoAt hc
      rw [q] at g1
      cases g1
      simp only [hc] at e
      cases c with
      | lk es =>
        cases e
        obtain ⟨od, kvs, h1, h2⟩ := g2
        exact .dct (.inr ⟨od, h1⟩) h2
      | kn c' =>
        cases c' with
        | lst ps =>
          obtain ⟨ds, h3, rfl⟩ := Option.map_eq_some_iff.mp e
          obtain ⟨vs, h4, h5⟩ := g2
          exact .lst h4 (datsP_dv h5 h3)
        | dct ps =>
          obtain ⟨ds, h3, rfl⟩ := Option.map_eq_some_iff.mp e
          obtain ⟨vs, h4, h5⟩ := g2
          exact .dct (.inl h4) (datsK_dv h5 h3)
        | _ => cases e
      | _ => cases e
theorem deepAll {K : PySem.W.Frag} {Hk : Kn} {Hl : Hp} {g : PV → Option PyData} (ih : ∀ {p : PV} {v : V} {d : PyData}, PvOk K Hk v p → g p = some d → Dv K Hl v d) : ∀ {ps : List PV} {vs : List V} {ds : List PyData}, PvAll K Hk vs ps → rdAllP g ps = some ds → DvAll K Hl vs ds
  | [], _, ds, .nil, h => by
    cases h
    exact .nil
  | p :: ps, _, ds, .cons w1 w2, h => by
    obtain ⟨d1, g1, h3⟩ := Option.bind_eq_some_iff.mp h
    obtain ⟨ds1, g2, rfl⟩ := Option.map_eq_some_iff.mp h3
    exact .cons (ih w1 g1) (deepAll ih w2 g2)
theorem deepKv {K : PySem.W.Frag} {Hk : Kn} {Hl : Hp} {g : PV → Option PyData} (ih : ∀ {p : PV} {v : V} {d : PyData}, PvOk K Hk v p → g p = some d → Dv K Hl v d) : ∀ {ps : List (PyData × PV)} {vs : List (Key × V)} {ds : List (PyData × PyData)}, PvKv K Hk vs ps → rdAllK g ps = some ds → DvKv K Hl vs ds
  | [], _, ds, .nil, h => by
    cases h
    exact .nil
  | (_, p) :: ps, _, ds, .cons w1 w2, h => by
    obtain ⟨d1, g1, h3⟩ := Option.bind_eq_some_iff.mp h
    obtain ⟨ds1, g2, rfl⟩ := Option.map_eq_some_iff.mp h3
    exact .cons (ih w1 g1) (deepKv ih w2 g2)
theorem Rel.deepP (R : Rel K B env σ Hk H) {Hl : Hp} (s : Same Hk Hl) (hl : ∀ (n : Nat) c a, (sto env)[n]? = some c → c.live → Hk.P n = some a → Hl a = H a) : ∀ (f : Nat) {p : PV} {v : V} {d : PyData}, PvOk K Hk v p → p.deep (sto env) f = some d → Dv K Hl v d
  | f, .dat d', v, d, h, e => by
    have e : some d' = some d := by cases f <;> exact e
    cases e
    cases h with
    | dat q => exact dv_mono s _ _ q
  | 0, .tup ps, v, d, h, e => by cases e
  | 0, .ref n, v, d, h, e => by cases e
  | f + 1, .tup ps, v, d, h, e => by
    obtain ⟨ds, h3, rfl⟩ := Option.map_eq_some_iff.mp e
    cases h with
    | @tup a vs _ q1 q2 => exact .tup (same_tup s q1.sq) (deepAll (fun w g => Rel.deepP R s hl f w g) q2 h3)
  | f + 1, .ref n, v, d, h, e => by
    cases h with
    | @ref a _ q =>
      unfold PV.deep at e
      cases hc : (sto env)[n]? with
      | none => simp only [hc] at e; cases e
      | some c =>
        obtain ⟨hS, b, g1, g2, g3⟩ := R.stoAt hc
        rw [q] at g1
        cases g1
        simp only [hc] at e
        have hla := hl n c a hc
        clear hc
        cases c with
        | ins C fs => cases e
        | lk es =>
          cases e
          obtain ⟨od, kvs, h1, h2⟩ := g2
          exact .dct (.inr ⟨od, s _ _ h1⟩) (dvKv_mono s h2)
        | kn c' =>
          cases c' with
          | lst ps =>
            obtain ⟨ds, h3, rfl⟩ := Option.map_eq_some_iff.mp e
            obtain ⟨vs, h4, q2⟩ := g2
            exact .lst (s _ _ h4) (deepAll (fun w g => Rel.deepP R s hl f w g) q2 h3)
          | dct ps =>
            obtain ⟨ds, h3, rfl⟩ := Option.map_eq_some_iff.mp e
            obtain ⟨vs, h4, q2⟩ := g2
            exact .dct (.inl (s _ _ h4)) (deepKv (fun w g => Rel.deepP R s hl f w g) q2 h3)
          | _ => cases e
        | lst ps =>
          have ha := hla trivial q
          obtain ⟨ds, h3, rfl⟩ := Option.map_eq_some_iff.mp e
          obtain ⟨vs, h4, q2⟩ := g2
          exact .lst (by rw [ha]; exact h4) (deepAll (fun w g => Rel.deepP R s hl f w g) q2 h3)
        | dct ps =>
          have ha := hla trivial q
          obtain ⟨ds, h3, rfl⟩ := Option.map_eq_some_iff.mp e
          obtain ⟨vs, h4, q2⟩ := g2
          exact .dct (.inl (by rw [ha]; exact h4)) (deepKv (fun w g => Rel.deepP R s hl f w g) q2 h3)
theorem Rel.viewP (R : Rel K B env σ Hk H) {p : PV} (h : PvOk K Hk v p) (e : p.rd (sto env) = some d) : View K Hk H v d := by
  cases h with
  | dat q =>
    cases e
    exact .inl q
  | tup q1 q2 =>
    obtain ⟨ds, h3, rfl⟩ := Option.map_eq_some_iff.mp e
    exact .inl (.tup q1.sq (datsP_dv q2 h3))
  | @ref a n q =>
    unfold PV.rd at e
    simp only at e
    cases hc : (sto env)[n]? with
    | none => simp only [hc] at e; cases e
    | some c =>
      obtain ⟨hS, b, g1, g2, g3⟩ := R.stoAt hc
      rw [q] at g1
      cases g1
      simp only [hc] at e
      cases c with
      | lst ps =>
        obtain ⟨ds, h3, rfl⟩ := Option.map_eq_some_iff.mp e
        obtain ⟨vs, h4, h5⟩ := g2
        exact .inr ⟨a, .lst ds, rfl, rfl, vs, h4, datsP_dv h5 h3⟩
      | dct ps =>
        obtain ⟨ds, h3, rfl⟩ := Option.map_eq_some_iff.mp e
        obtain ⟨vs, h4, h5⟩ := g2
        exact .inr ⟨a, .dct ds, rfl, rfl, vs, h4, datsK_dv h5 h3⟩
      | ins C fs => cases e
      | lk es =>
        cases e
        obtain ⟨od, kvs, h1, h2⟩ := g2
        exact .inl (.dct (.inr ⟨od, h1⟩) h2)
      | kn c' =>
        cases c' with
        | lst ps =>
          obtain ⟨ds, h3, rfl⟩ := Option.map_eq_some_iff.mp e
          obtain ⟨vs, h4, h5⟩ := g2
          exact .inl (.lst h4 (datsP_dv h5 h3))
        | dct ps =>
          obtain ⟨ds, h3, rfl⟩ := Option.map_eq_some_iff.mp e
          obtain ⟨vs, h4, h5⟩ := g2
          exact .inl (.dct (.inl h4) (datsK_dv h5 h3))
        | _ => cases e
theorem Rel.view (R : Rel K B env σ Hk H) (h : RsOk K σ Hk r v) (e : rdv env r = some d) : View K Hk H v d := by
  cases r with
  | pv p => exact R.viewP h e
  | dat d' =>
    cases e
    exact .inl h
  | new c => exact False.elim h
  | slt i =>
    have h : σ[i]? = some (some v) := h
    cases q : env[i]? with
    | none =>
      simp only [rdv, q] at e
      cases e
    | some s =>
      obtain ⟨o, h1, h2⟩ := R.slot i s q
      rw [h] at h1
      cases h1
      simp only [rdv, q] at e
      cases s with
      | no => cases e
      | scr ns => cases e
      | pin a => cases e
      | pv p => cases e
      | sto M => cases e
      | val d' =>
        cases e
        obtain ⟨v', e1, z⟩ := h2
        cases e1
        exact .inl z
      | own c =>
        cases e
        obtain ⟨a, e1, q1, q2, q3⟩ := h2
        cases e1
        exact .inr ⟨a, c, rfl, rfl, q3⟩
      | io k c =>
        cases e
        obtain ⟨a, e1, q1, q2, q3⟩ := h2
        cases e1
        exact .inr ⟨a, c, rfl, rfl, q3⟩
theorem View.dv {Hk : Hp} (h : View K Hk H v d) (e : Same Hk H) : Dv K H v d := by
  rcases h with h | ⟨a, c, rfl, rfl, h1⟩
  · exact dv_mono e d v h
  · obtain ⟨ob, h2, h3⟩ := h1.obj
    exact h3 _ e h2
theorem View.int {Hk : Hp} {i : Int} (h : View K Hk H v (.int i)) : v = .int i := by
  rcases h with h | ⟨a, c, rfl, e, _⟩
  · cases h; rfl
  · cases c <;> cases e
theorem View.str {Hk : Hp} {x : Str} (h : View K Hk H v (.str x)) : v = .str x := by
  rcases h with h | ⟨a, c, rfl, e, _⟩
  · cases h; rfl
  · cases c <;> cases e
theorem View.bool {Hk : Hp} {b : Bool} (h : View K Hk H v (.bool b)) : v = .bl b := by
  rcases h with h | ⟨a, c, rfl, e, _⟩
  · cases h; rfl
  · cases c <;> cases e
theorem View.non {Hk : Hp} (h : View K Hk H v .none) : v = .non := by
  rcases h with h | ⟨a, c, rfl, e, _⟩
  · cases h; rfl
  · cases c <;> cases e
theorem View.list {Hk : Hp} {ds : List PyData} (h : View K Hk H v (.list ds)) (e : Same Hk H) : ∃ a vs, v = .ref a ∧ H a = some (.lst vs) ∧ DvAll K Hk vs ds := by
  rcases h with h | ⟨a, c, rfl, q, h1⟩
  · cases h with
    | lst h1 h2 => exact ⟨_, _, rfl, e _ _ h1, h2⟩
  · cases c with
    | dct _ => cases q
    | lst ds' =>
      cases q
      obtain ⟨vs, h1, h2⟩ := h1
      exact ⟨a, vs, rfl, h1, h2⟩
theorem View.dict {Hk : Hp} {es : List (PyData × PyData)} (h : View K Hk H v (.dict es)) (e : Same Hk H) : ∃ a kvs, v = .ref a ∧ Rd H a (.dK kvs) ∧ DvKv K Hk kvs es := by
  rcases h with h | ⟨a, c, rfl, q, h1⟩
  · cases h with
    | dct h1 h2 => exact ⟨_, _, rfl, same_rd e h1, h2⟩
  · cases c with
    | lst _ => cases q
    | dct es' =>
      cases q
      obtain ⟨vs, h1, h2⟩ := h1
      exact ⟨a, vs, rfl, .inl h1, h2⟩
theorem View.tup {Hk : Hp} {ds : List PyData} (h : View K Hk H v (.tuple ds)) (e : Same Hk H) : ∃ a vs, v = .ref a ∧ SqT K H a vs ∧ DvAll K Hk vs ds := by
  rcases h with h | ⟨a, c, rfl, q, h1⟩
  · cases h with
    | tup h1 h2 => exact ⟨_, _, rfl, same_tup e h1, h2⟩
  · cases c <;> cases q
end
theorem _root_.L2.PE.imp {X : Cx} {e : Expr} {t t' : TE} (h : PE X e t) (k : ∀ σ H Q, t' σ H Q → t σ H Q) : PE X e t' := ⟨fun pins s σ H Q I q => h.run pins s σ H Q I (k σ H Q q)⟩
theorem _root_.L2.PT.imp {X : Cx} {e : Expr} {t t' : TT} (h : PT X e t) (k : ∀ σ H Q, t' σ H Q → t σ H Q) : PT X e t' := ⟨fun pins s σ H Q I q => h.run pins s σ H Q I (k σ H Q q)⟩
theorem _root_.L2.PW.imp {X : Cx} {e : Expr} {t t' : TT} (h : PW X e t) (k : ∀ σ H Q, t' σ H Q → t σ H Q) : PW X e t' := ⟨fun wh pins s σ H Q I q => h.run wh pins s σ H Q I (k σ H Q q)⟩
theorem _root_.L2.PA.imp {X : Cx} {e : List Expr} {t t' : TA} (h : PA X e t) (k : ∀ σ H Q, t' σ H Q → t σ H Q) : PA X e t' := ⟨fun pos pins s σ H Q I q => h.run pos pins s σ H Q I (k σ H Q q)⟩
abbrev VE (X : Cx) (e : Expr) (m : ME) : Prop := PE X e (tE X.K m)
abbrev VT (X : Cx) (e : Expr) (m : MT) : Prop := PT X e (tT X.K m)
abbrev VW (X : Cx) (e : Expr) (m : MT) : Prop := PW X e (tT X.K m)
abbrev VA (X : Cx) (es : List Expr) (m : MA) : Prop := PA X es (tA X.K m)
def mName (i : Nat) : ME := fun env => match env[i]? with
  | some (.val d) => some (.dat d, env)
  | some (.own _) => some (.slt i, env)
  | some (.io _ _) => some (.slt i, env)
  | some (.scr _) => some (.slt i, env)
  | some (.pv p) => some (.pv p, env)
  | _ => none
def mC (d : PyData) : ME := fun env => some (.dat d, env)
section
variable {X : Cx} {K : PySem.W.Frag}
theorem name_run {i : Nat} {σ : St} {H : Hp} {Q : VK} (h : tE K (mName i) σ H Q) : tVar i σ H Q := by
  obtain ⟨B, env, Hk, r, env', R, hm, k⟩ := h
  unfold mName at hm
  cases q : env[i]? with
  | none =>
    rw [q] at hm
    cases hm
  | some s =>
    rw [q] at hm
    obtain ⟨o, h1, h2⟩ := R.slot i s q
    cases s with
    | no => cases hm
    | val d =>
      cases hm
      obtain ⟨v, rfl, z⟩ := h2
      exact ⟨v, h1, k v Hk H R (.refl _) z⟩
    | own c =>
      cases hm
      obtain ⟨a, rfl, z⟩ := h2
      exact ⟨_, h1, k _ Hk H R (.refl _) h1⟩
    | io k c =>
      cases hm
      obtain ⟨a, rfl, z⟩ := h2
      exact ⟨_, h1, k _ Hk H R (.refl _) h1⟩
    | scr c =>
      cases hm
      obtain ⟨a, rfl, z⟩ := h2
      exact ⟨_, h1, k _ Hk H R (.refl _) h1⟩
    | pv p =>
      cases hm
      obtain ⟨v, rfl, z⟩ := h2
      exact ⟨v, h1, k v Hk H R (.refl _) z⟩
    | sto M => cases hm
    | pin a => cases hm
theorem ve_name (i : Nat) {x : Str} {pos : Pos} (hN : X.N[i]? = some x := by rfl) (hv : Vis X.env.scope x := by first | exact Or.inl rfl | exact Or.inr (Or.inl rfl) | exact Or.inr (Or.inr rfl)) (hd : (x == ("__debug__" : Str)) = false := by decide)
    (hcd : (x == ("__classdict__" : Str)) = false := by decide) : VE X (.Name x pos) (mName i) := (pe_var hN hv hd hcd).imp fun _ _ _ => name_run
theorem c_run {v : V} {d : PyData} (hd : ∀ Hk, Dv K Hk v d) {σ : St} {H : Hp} {Q : VK} (h : tE K (mC d) σ H Q) : tC v σ H Q := by
  obtain ⟨B, env, Hk, r, env', R, hm, k⟩ := h
  cases hm
  exact k v Hk H R (.refl _) (hd Hk)
theorem ve_int {i j pos} : VE X (.Constant (.int i) j pos) (mC (.int i)) := pe_int.imp fun _ _ _ => c_run fun _ => .int i
theorem ve_bl {b j pos} : VE X (.Constant (.bool b) j pos) (mC (.bool b)) := pe_bl.imp fun _ _ _ => c_run fun _ => .bl b
theorem ve_non {j pos} : VE X (.Constant .none j pos) (mC .none) := pe_non.imp fun _ _ _ => c_run fun _ => .non
theorem ve_str {x j pos} : VE X (.Constant (.str x) j pos) (mC (.str x)) := pe_str.imp fun _ _ _ => c_run fun _ => .str x
theorem ve_glob {x : Str} {v : V} {u : Value} {pos : Pos} {d : PyData} (hg : Gl X x) (hm : X.mg x = some u) (r : RelV v u) (hv : ∀ Hk, Dv X.K Hk v d) (hd : (x == ("__debug__" : Str)) = false := by decide) : VE X (.Name x pos) (mC d) :=
  (pe_glob hg hm r hd).imp fun _ _ _ => c_run hv
end
def frz : Res × Sl → Option (Res × Sl)
  | (.dat d, e) => some (.dat d, e)
  | (.new c, e) => some (.dat c.dat, e)
  | (.pv (.dat d), e) => some (.dat d, e)
  | (.pv _, _) => none
  | (.slt i, e) => match e[i]? with
    | some (.val d) => some (.dat d, e)
    | some (.own c) => some (.dat c.dat, e.set i (.val c.dat))
    | _ => none
def mFrz (m : ME) : ME := fun env => (m env).bind frz
section
variable {X : Cx} {K : PySem.W.Frag}
theorem Rel.frz {B : Fb} {env env' : Sl} {σ : St} {Hk : Kn} {H : Hp} {r r' : Res} {v : V} (R : Rel K B env σ Hk H) (o : ResOk K B env σ Hk H r v) (h : Cm.frz (r, env) = some (r', env')) :
    ∃ Hk' : Kn, ∃ d, r' = .dat d ∧ Rel K B env' σ Hk' H ∧ KSame Hk Hk' ∧ Dv K Hk' v d := by
  cases r with
  | dat d =>
    cases h
    exact ⟨Hk, d, rfl, R, .refl _, o⟩
  | new c =>
    cases h
    obtain ⟨Hk', R', s, q⟩ := R.stab o
    exact ⟨Hk', _, rfl, R', s, q⟩
  | pv p =>
    cases p with
    | dat d =>
      cases h
      cases o with
      | dat q => exact ⟨Hk, d, rfl, R, .refl _, q⟩
    | ref n => cases h
    | tup ps => cases h
  | slt i =>
    unfold Cm.frz at h
    have o : σ[i]? = some (some v) := o
    cases q : env[i]? with
    | none => simp only [q] at h; cases h
    | some s =>
      simp only [q] at h
      cases s with
      | no => cases h
      | scr ns => cases h
      | pin a => cases h
      | pv p => cases h
      | sto M => cases h
      | io k c => cases h
      | val d =>
        cases h
        obtain ⟨o', h1, v', e1, z⟩ := R.slot i _ q
        rw [o] at h1
        cases h1
        cases e1
        exact ⟨Hk, d, rfl, R, .refl _, z⟩
      | own c =>
        cases h
        obtain ⟨a, Hk', h1, R', s, z⟩ := R.freezeC q
        rw [o] at h1
        cases h1
        exact ⟨Hk', _, rfl, R', s, z⟩
theorem frz_run {m : ME} {σ : St} {H : Hp} {Q : VK} (h : tE K (mFrz m) σ H Q) : tE K m σ H Q := by
  obtain ⟨B, env, Hk, r, env', R, hm, k⟩ := h
  obtain ⟨⟨r1, e1⟩, h1, h2⟩ := Option.bind_eq_some_iff.mp hm
  refine ⟨B, env, Hk, r1, e1, R, h1, fun v Hk1 H1 R1 s1 o1 => ?_⟩
  obtain ⟨Hk', d, rfl, R', s', z⟩ := R1.frz o1 h2
  exact k v Hk' H1 R' (s1.trans s') z
theorem ve_frz {e : Expr} {m : ME} (h : VE X e m) : VE X e (mFrz m) := h.imp fun _ _ _ => frz_run
end
def OpD (K : PySem.W.Frag) (r : R2) (g : PyData → PyData → Option Res) : Prop := ∀ (Hk H : Hp) (x y : V) (dx dy : PyData) (res : Res) (Q : VK), Same Hk H → View K Hk H x dx → View K Hk H y dy → g dx dy = some res → (∀ v H', Out K Hk H res v H' → Q v H') → r x y H Q
def mOp (g : PyData → PyData → Option Res) (ma mb : ME) : ME := fun env => (ma env).bind fun p => (mb p.2).bind fun q => (rdv q.2 (stab p.1)).bind fun dx => (rdv q.2 (stab q.1)).bind fun dy => (g dx dy).map fun r => (r, q.2)
section
variable {X : Cx} {K : PySem.W.Frag} {g g' : PyData → PyData → Option Res} {r r' : R2} {ma mb mc : ME} {a b c : Expr} {pos : Pos}
theorem op_run (hg : OpD K r g) {σ : St} {H : Hp} {Q : VK} (h : tE K (mOp g ma mb) σ H Q) : tOp r (tE K ma) (tE K mb) σ H Q := by
  obtain ⟨B, env, Hk, res, env', R, hm, k⟩ := h
  obtain ⟨⟨x, e1⟩, h1, hm⟩ := Option.bind_eq_some_iff.mp hm
  obtain ⟨⟨y, e2⟩, h2, hm⟩ := Option.bind_eq_some_iff.mp hm
  obtain ⟨dx, h3, hm⟩ := Option.bind_eq_some_iff.mp hm
  obtain ⟨dy, h4, hm⟩ := Option.bind_eq_some_iff.mp hm
  obtain ⟨res', h5, hm⟩ := Option.map_eq_some_iff.mp hm
  cases hm
  refine ⟨B, env, Hk, x, e1, R, h1, fun v Hk1 H1 R1 s1 o1 => ?_⟩
  obtain ⟨Hk1', R1', s1', o1'⟩ := R1.stab o1
  refine ⟨B, e1, Hk1', y, e2, R1', h2, fun w Hk2 H2 R2 s2 o2 => ?_⟩
  obtain ⟨Hk2', R2', s2', o2'⟩ := R2.stab o2
  refine hg Hk2' H2 v w dx dy res Q R2'.ex (R2'.view ((o1'.mono s2).mono s2') h3) (R2'.view o2' h4) h5 fun z H3 out => ?_
  obtain ⟨Hk3, R3, s3, o3⟩ := R2'.out out
  exact k z Hk3 H3 R3 ((((s1.trans s1').trans s2).trans s2').trans s3) o3
theorem ve_op {op : Operator} (ho : OpR X (binaryOp op) r) (hg : OpD X.K r g) (ha : VE X a ma) (hb : VE X b mb) : VE X (.BinOp a op b pos) (mOp g ma mb) := (pe_op ho ha hb).imp fun _ _ _ => op_run hg
theorem ve_cmp {op : CmpOp} (ho : OpR X (compareOp op) r) (hg : OpD X.K r g) (ha : VE X a ma) (hb : VE X b mb) (hm : behindInMarks op b = false) : VE X (.Compare a [op] [b] pos) (mOp g ma mb) := (pe_cmpR ho ha hb hm).imp fun _ _ _ => op_run hg
theorem ve_ix (hi : IxR X r) (hg : OpD X.K r g) (ha : VE X a ma) (hb : VE X b mb) (hs : PlainIx b) : VE X (.Subscript a b pos) (mOp g ma mb) := (pe_ix hi ha hb hs).imp fun _ _ _ => op_run hg
def mTest (m : ME) : MT := fun env => (m env).bind fun p => match p.1 with
  | .dat (.bool b) => some (b, p.2)
  | _ => none
theorem test_run {m : ME} {σ : St} {H : Hp} {Q : Bool → Hp → Prop} (h : tT K (mTest m) σ H Q) : tE K m σ H fun x H' => ∃ k, x = .bl k ∧ Q k H' := by
  obtain ⟨B, env, Hk, b, env', R, hm, k⟩ := h
  obtain ⟨⟨x, e1⟩, h1, hm⟩ := Option.bind_eq_some_iff.mp hm
  refine ⟨B, env, Hk, x, e1, R, h1, fun v Hk1 H1 R1 s1 o1 => ?_⟩
  cases x with
  | new c => cases hm
  | slt i => cases hm
  | pv p => cases hm
  | dat d =>
    cases d with
    | bool b' =>
      cases hm
      cases o1
      exact ⟨b, rfl, k Hk1 H1 R1 s1⟩
    | _ => cases hm
theorem vt_cmp {op : CmpOp} (ho : OpR X (compareOp op) r) (hg : OpD X.K r g) (ha : VE X a ma) (hb : VE X b mb) (hm : behindInMarks op b = false) : VT X (.Compare a [op] [b] pos) (mTest (mOp g ma mb)) :=
  (pt_cmpR ho ha hb hm).imp fun _ _ _ h => op_run hg (test_run h)
theorem vt_val {m : ME} (h : VE X a m) (he : ∀ whole, isTrue a X.env whole = (do let v ← whole; standAt a.pos; holding [v] (truthy v)) := by intro _; rfl) : VT X a (mTest m) :=
  (pt_val h he).imp fun _ _ _ h => test_run h
def mChain (g g' : PyData → PyData → Option Res) (ma mb mc : ME) : ME := fun env => (ma env).bind fun p => (mb p.2).bind fun q => (rdv q.2 (stab p.1)).bind fun dx => (rdv q.2 (stab q.1)).bind fun dy => (g dx dy).bind fun r => match r with
  | .dat (.bool true) => (mc q.2).bind fun t => (rdv t.2 (stab q.1)).bind fun dy' => (rdv t.2 (stab t.1)).bind fun dz => (g' dy' dz).map fun r => (r, t.2)
  | .dat (.bool false) => some (.dat (.bool false), q.2)
  | _ => none
theorem chain_run (hg : OpD K r g) (hg' : OpD K r' g') {σ : St} {H : Hp} {Q : VK} (h : tE K (mChain g g' ma mb mc) σ H Q) : tChain r r' (tE K ma) (tE K mb) (tE K mc) σ H Q := by
  obtain ⟨B, env, Hk, res, env', R, hm, k⟩ := h
  obtain ⟨⟨x, e1⟩, h1, hm⟩ := Option.bind_eq_some_iff.mp hm
  obtain ⟨⟨y, e2⟩, h2, hm⟩ := Option.bind_eq_some_iff.mp hm
  obtain ⟨dx, h3, hm⟩ := Option.bind_eq_some_iff.mp hm
  obtain ⟨dy, h4, hm⟩ := Option.bind_eq_some_iff.mp hm
  obtain ⟨res', h5, hm⟩ := Option.bind_eq_some_iff.mp hm
  refine ⟨B, env, Hk, x, e1, R, h1, fun v Hk1 H1 R1 s1 o1 => ?_⟩
  obtain ⟨Hk1', R1', s1', o1'⟩ := R1.stab o1
  refine ⟨B, e1, Hk1', y, e2, R1', h2, fun w Hk2 H2 R2 s2 o2 => ?_⟩
  obtain ⟨Hk2', R2', s2', o2'⟩ := R2.stab o2
  refine hg Hk2' H2 v w dx dy res' _ R2'.ex (R2'.view ((o1'.mono s2).mono s2') h3) (R2'.view o2' h4) h5 fun z H3 out => ?_
  obtain ⟨Hk3, R3, s3, o3⟩ := R2'.out out
  have sm := (((s1.trans s1').trans s2).trans s2').trans s3
  cases res' with
  | new c => cases hm
  | slt i => cases hm
  | pv p => cases hm
  | dat d =>
    cases d with
    | bool bb =>
      cases o3
      cases bb with
      | false =>
        cases hm
        exact ⟨false, rfl, k _ Hk3 H3 R3 sm (.bl false)⟩
      | true =>
        refine ⟨true, rfl, ?_⟩
        show tE K mc σ H3 _
        obtain ⟨⟨t, e3⟩, h6, hm⟩ := Option.bind_eq_some_iff.mp hm
        obtain ⟨dy', h7, hm⟩ := Option.bind_eq_some_iff.mp hm
        obtain ⟨dz, h8, hm⟩ := Option.bind_eq_some_iff.mp hm
        obtain ⟨res2, h9, hm⟩ := Option.map_eq_some_iff.mp hm
        cases hm
        refine ⟨B, e2, Hk3, t, e3, R3, h6, fun u Hk4 H4 R4 s4 o4 => ?_⟩
        obtain ⟨Hk4', R4', s4', o4'⟩ := R4.stab o4
        refine hg' Hk4' H4 w u dy' dz res Q R4'.ex (R4'.view (((o2'.mono s3).mono s4).mono s4') h7) (R4'.view o4' h8) h9 fun z H5 out => ?_
        obtain ⟨Hk5, R5, s5, o5⟩ := R4'.out out
        exact k z Hk5 H5 R5 (((sm.trans s4).trans s4').trans s5) o5
    | _ => cases hm
theorem vt_chain {op op' : CmpOp} (ho : OpR X (compareOp op) r) (hg : OpD X.K r g) (ho' : OpR X (compareOp op') r') (hg' : OpD X.K r' g') (ha : VE X a ma) (hb : VE X b mb) (hc : VE X c mc)
    (hm : lastMarks [op, op'] [b, c] = false := by with_unfolding_all rfl) : VT X (.Compare a [op, op'] [b, c] pos) (mTest (mChain g g' ma mb mc)) := (pt_chain ho ho' ha hb hc hm).imp fun _ _ _ h => chain_run hg hg' (test_run h)
end
def UnD (K : PySem.W.Frag) (r : V → Hp → VK → Prop) (g : PyData → Option Res) : Prop := ∀ (Hk H : Hp) (x : V) (dx : PyData) (res : Res) (Q : VK), Same Hk H → View K Hk H x dx → g dx = some res → (∀ v H', Out K Hk H res v H' → Q v H') → r x H Q
def mUn (g : PyData → Option Res) (ma : ME) : ME := fun env => (ma env).bind fun p => (rdv p.2 (stab p.1)).bind fun dx => (g dx).map fun r => (r, p.2)
section
variable {X : Cx} {K : PySem.W.Frag} {g : PyData → Option Res} {r : V → Hp → VK → Prop} {ma mb : ME} {t u : MT} {a b c : Expr} {rest : List Expr} {pos : Pos}
theorem un_run (hg : UnD K r g) {σ : St} {H : Hp} {Q : VK} (h : tE K (mUn g ma) σ H Q) : tUn r (tE K ma) σ H Q := by
  obtain ⟨B, env, Hk, res, env', R, hm, k⟩ := h
  obtain ⟨⟨x, e1⟩, h1, hm⟩ := Option.bind_eq_some_iff.mp hm
  obtain ⟨dx, h3, hm⟩ := Option.bind_eq_some_iff.mp hm
  obtain ⟨res', h5, hm⟩ := Option.map_eq_some_iff.mp hm
  cases hm
  refine ⟨B, env, Hk, x, e1, R, h1, fun v Hk1 H1 R1 s1 o1 => ?_⟩
  obtain ⟨Hk1', R1', s1', o1'⟩ := R1.stab o1
  refine hg Hk1' H1 v dx res Q R1'.ex (R1'.view o1' h3) h5 fun z H3 out => ?_
  obtain ⟨Hk3, R3, s3, o3⟩ := R1'.out out
  exact k z Hk3 H3 R3 ((s1.trans s1').trans s3) o3
theorem ve_un {op : UnaryOp} (ho : UnR X (unaryOp op) r) (hg : UnD X.K r g) (ha : VE X a ma) : VE X (.UnaryOp op a pos) (mUn g ma) := (pe_un ho ha).imp fun _ _ _ => un_run hg
def mAnd (t u : MT) : MT := fun env => (t env).bind fun p => if p.1 = true then u p.2 else some (false, p.2)
def mOr (t u : MT) : MT := fun env => (t env).bind fun p => if p.1 = true then some (true, p.2) else u p.2
def mNot (t : MT) : MT := fun env => (t env).map fun p => (!p.1, p.2)
theorem and_run {σ : St} {H : Hp} {Q : Bool → Hp → Prop} (h : tT K (mAnd t u) σ H Q) : tAnd (tT K t) (tT K u) σ H Q := by
  obtain ⟨B, env, Hk, b, env', R, hm, k⟩ := h
  obtain ⟨⟨c, e1⟩, h1, hm⟩ := Option.bind_eq_some_iff.mp hm
  refine ⟨B, env, Hk, c, e1, R, h1, fun Hk1 H1 R1 s1 => ?_⟩
  cases c with
  | true => exact ⟨B, e1, Hk1, b, env', R1, hm, fun Hk2 H2 R2 s2 => k Hk2 H2 R2 (s1.trans s2)⟩
  | false =>
    cases hm
    exact k Hk1 H1 R1 s1
theorem or_run {σ : St} {H : Hp} {Q : Bool → Hp → Prop} (h : tT K (mOr t u) σ H Q) : tOr (tT K t) (tT K u) σ H Q := by
  obtain ⟨B, env, Hk, b, env', R, hm, k⟩ := h
  obtain ⟨⟨c, e1⟩, h1, hm⟩ := Option.bind_eq_some_iff.mp hm
  refine ⟨B, env, Hk, c, e1, R, h1, fun Hk1 H1 R1 s1 => ?_⟩
  cases c with
  | false => exact ⟨B, e1, Hk1, b, env', R1, hm, fun Hk2 H2 R2 s2 => k Hk2 H2 R2 (s1.trans s2)⟩
  | true =>
    cases hm
    exact k Hk1 H1 R1 s1
theorem not_run {σ : St} {H : Hp} {Q : Bool → Hp → Prop} (h : tT K (mNot t) σ H Q) : tNot (tT K t) σ H Q := by
  obtain ⟨B, env, Hk, b, env', R, hm, k⟩ := h
  obtain ⟨⟨c, e1⟩, h1, hm⟩ := Option.map_eq_some_iff.mp hm
  cases hm
  exact ⟨B, env, Hk, c, e1, R, h1, k⟩
theorem vw_and1 (ha : VT X a t) : VW X (.BoolOp .And [a] pos) t := pw_and1 ha
theorem vw_or1 (ha : VT X a t) : VW X (.BoolOp .Or [a] pos) t := pw_or1 ha
theorem vw_and (ha : VT X a t) (hb : VW X (.BoolOp .And (b :: rest) pos) u) : VW X (.BoolOp .And (a :: b :: rest) pos) (mAnd t u) := (pw_and ha hb).imp fun _ _ _ => and_run
theorem vw_or (ha : VT X a t) (hb : VW X (.BoolOp .Or (b :: rest) pos) u) : VW X (.BoolOp .Or (a :: b :: rest) pos) (mOr t u) := (pw_or ha hb).imp fun _ _ _ => or_run
theorem vt_w {e : Expr} (h : VW X e t) : VT X e t := PW.pt h
theorem vt_not (ha : VT X a t) : VT X (.UnaryOp .Not a pos) (mNot t) := (pt_not ha).imp fun _ _ _ => not_run
def mAndV (ma mb : ME) : ME := fun env => (ma env).bind fun p => match p.1 with
  | .dat (.bool true) => mb p.2
  | .dat (.bool false) => some (.dat (.bool false), p.2)
  | _ => none
def mNotV (ma : ME) : ME := fun env => (ma env).bind fun p => match p.1 with
  | .dat (.bool b) => some (.dat (.bool (!b)), p.2)
  | _ => none
theorem andV_run {σ : St} {H : Hp} {Q : VK} (h : tE K (mAndV ma mb) σ H Q) : tAndV (tE K ma) (tE K mb) σ H Q := by
  obtain ⟨B, env, Hk, res, env', R, hm, k⟩ := h
  obtain ⟨⟨x, e1⟩, h1, hm⟩ := Option.bind_eq_some_iff.mp hm
  refine ⟨B, env, Hk, x, e1, R, h1, fun v Hk1 H1 R1 s1 o1 => ?_⟩
  cases x with
  | new c => cases hm
  | slt i => cases hm
  | pv p => cases hm
  | dat d =>
    cases d with
    | bool b =>
      cases o1
      refine ⟨b, rfl, ?_⟩
      cases b with
      | true => exact ⟨B, e1, Hk1, res, env', R1, hm, fun v Hk2 H2 R2 s2 o2 => k v Hk2 H2 R2 (s1.trans s2) o2⟩
      | false =>
        cases hm
        exact k _ Hk1 H1 R1 s1 (.bl false)
    | _ => cases hm
theorem notV_run {σ : St} {H : Hp} {Q : VK} (h : tE K (mNotV ma) σ H Q) : tNotV (tE K ma) σ H Q := by
  obtain ⟨B, env, Hk, res, env', R, hm, k⟩ := h
  obtain ⟨⟨x, e1⟩, h1, hm⟩ := Option.bind_eq_some_iff.mp hm
  refine ⟨B, env, Hk, x, e1, R, h1, fun v Hk1 H1 R1 s1 o1 => ?_⟩
  cases x with
  | new c => cases hm
  | slt i => cases hm
  | pv p => cases hm
  | dat d =>
    cases d with
    | bool b =>
      cases o1
      cases hm
      exact ⟨b, rfl, k _ Hk1 H1 R1 s1 (.bl _)⟩
    | _ => cases hm
theorem ve_one {op} (h : VE X a ma) : VE X (.BoolOp op [a] pos) ma := pe_one h
theorem ve_and (ha : VE X a ma) (hb : VE X (.BoolOp .And (b :: rest) pos) mb) : VE X (.BoolOp .And (a :: b :: rest) pos) (mAndV ma mb) := (pe_and ha hb).imp fun _ _ _ => andV_run
theorem ve_not (ha : VE X a ma) : VE X (.UnaryOp .Not a pos) (mNotV ma) := (pe_not ha).imp fun _ _ _ => notV_run
def mIf (t : MT) (ma mb : ME) : ME := fun env => (t env).bind fun p => if p.1 = true then ma p.2 else mb p.2
theorem if_run {σ : St} {H : Hp} {Q : VK} (h : tE K (mIf t ma mb) σ H Q) : tIf (tT K t) (tE K ma) (tE K mb) σ H Q := by
  obtain ⟨B, env, Hk, res, env', R, hm, k⟩ := h
  obtain ⟨⟨c, e1⟩, h1, hm⟩ := Option.bind_eq_some_iff.mp hm
  refine ⟨B, env, Hk, c, e1, R, h1, fun Hk1 H1 R1 s1 => ?_⟩
  cases c with
  | true => exact ⟨B, e1, Hk1, res, env', R1, hm, fun v Hk2 H2 R2 s2 o2 => k v Hk2 H2 R2 (s1.trans s2) o2⟩
  | false => exact ⟨B, e1, Hk1, res, env', R1, hm, fun v Hk2 H2 R2 s2 o2 => k v Hk2 H2 R2 (s1.trans s2) o2⟩
theorem ve_if (hc : VT X c t) (ha : VE X a ma) (hb : VE X b mb) : VE X (.IfExp c a b pos) (mIf t ma mb) := (pe_ifExp hc ha hb).imp fun _ _ _ => if_run
end
def mNil : MA := fun env => some ([], env)
def mCons (m : ME) (ms : MA) : MA := fun env => (m env).bind fun p => (ms p.2).map fun q => (stab p.1 :: q.1, q.2)
section
variable {X : Cx} {K : PySem.W.Frag} {m : ME} {ms : MA} {e : Expr} {es : List Expr} {pos : Pos}
theorem nil_run {σ : St} {H : Hp} {Q : List V → Hp → Prop} (h : tA K mNil σ H Q) : tNil σ H Q := by
  obtain ⟨B, env, Hk, rs, env', R, hm, k⟩ := h
  cases hm
  exact k [] Hk H R (.refl _) .nil
theorem cons_run {σ : St} {H : Hp} {Q : List V → Hp → Prop} (h : tA K (mCons m ms) σ H Q) : tCons (tE K m) (tA K ms) σ H Q := by
  obtain ⟨B, env, Hk, rs, env', R, hm, k⟩ := h
  obtain ⟨⟨x, e1⟩, h1, hm⟩ := Option.bind_eq_some_iff.mp hm
  obtain ⟨⟨xs, e2⟩, h2, hm⟩ := Option.map_eq_some_iff.mp hm
  cases hm
  refine ⟨B, env, Hk, x, e1, R, h1, fun v Hk1 H1 R1 s1 o1 => ?_⟩
  obtain ⟨Hk1', R1', s1', o1'⟩ := R1.stab o1
  refine ⟨B, e1, Hk1', xs, e2, R1', h2, fun vs Hk2 H2 R2 s2 o2 => ?_⟩
  exact k _ Hk2 H2 R2 ((s1.trans s1').trans s2) (.cons (o1'.mono s2) o2)
theorem va_nil : VA X [] mNil := pa_nil.imp fun _ _ _ => nil_run
theorem va_cons (ha : VE X e m) (hr : VA X es ms) (hs : starEach (e :: es) X.env = (false, eval e X.env) :: starEach es X.env := by rfl) : VA X (e :: es) (mCons m ms) := (pa_cons ha hr hs).imp fun _ _ _ => cons_run
def dats : List Res → Option (List PyData)
  | [] => some []
  | .dat d :: rs => (dats rs).map (d :: ·)
  | _ :: _ => none
theorem RsAll.dats {σ : St} {Hk : Kn} : ∀ {rs : List Res} {vs : List V} {ds : List PyData}, RsAll K σ Hk rs vs → Cm.dats rs = some ds → DvAll K Hk vs ds
  | _, _, _, .nil, h => by
    cases h
    exact .nil
  | .dat d :: rs, _, ds, .cons h1 h2, h => by
    obtain ⟨ds', e1, e2⟩ := Option.map_eq_some_iff.mp h
    subst e2
    exact .cons h1 (RsAll.dats h2 e1)
  | .slt i :: rs, _, ds, .cons h1 h2, h => by cases h
  | .new c :: rs, _, ds, .cons h1 h2, h => by cases h
def mLst (ms : MA) : ME := fun env => (ms env).bind fun p => (dats p.1).bind fun ds => if ds.length ≤ 100000 then some (.new (.lst ds), p.2) else none
def mTup (ms : MA) : ME := fun env => (ms env).bind fun p => (dats p.1).bind fun ds => if ds.length ≤ 100000 then some (.dat (.tuple ds), p.2) else none
theorem sz_of {n : Nat} (h : n ≤ 100000) : n ≤ sizeLine := Nat.le_trans h (by decide)
theorem lst_run {σ : St} {H : Hp} {Q : VK} (h : tE K (mLst ms) σ H Q) : tLst (tA K ms) σ H Q := by
  obtain ⟨B, env, Hk, res, env', R, hm, k⟩ := h
  obtain ⟨⟨rs, e1⟩, h1, hm⟩ := Option.bind_eq_some_iff.mp hm
  obtain ⟨ds, h2, hm⟩ := Option.bind_eq_some_iff.mp hm
  by_cases hl : ds.length ≤ 100000
  · rw [if_pos hl] at hm
    cases hm
    refine ⟨B, env, Hk, rs, e1, R, h1, fun vs Hk1 H1 R1 s1 o1 => ?_⟩
    have da := o1.dats h2
    refine ⟨by rw [da.len]; exact sz_of hl, fun p hp => ?_⟩
    obtain ⟨Hk2, R2, s2, o2⟩ := R1.out (r := .new (.lst ds)) ⟨p, vs, rfl, hp, rfl, da⟩
    exact k _ Hk2 _ R2 (s1.trans s2) o2
  · rw [if_neg hl] at hm
    cases hm
theorem tup_run {σ : St} {H : Hp} {Q : VK} (h : tE K (mTup ms) σ H Q) : tTup (tA K ms) σ H Q := by
  obtain ⟨B, env, Hk, res, env', R, hm, k⟩ := h
  obtain ⟨⟨rs, e1⟩, h1, hm⟩ := Option.bind_eq_some_iff.mp hm
  obtain ⟨ds, h2, hm⟩ := Option.bind_eq_some_iff.mp hm
  by_cases hl : ds.length ≤ 100000
  · rw [if_pos hl] at hm
    cases hm
    refine ⟨B, env, Hk, rs, e1, R, h1, fun vs Hk1 H1 R1 s1 o1 => ?_⟩
    have da := o1.dats h2
    refine ⟨by rw [da.len]; exact sz_of hl, fun p hp => ?_⟩
    obtain ⟨Hk2, R2, s2, o2⟩ := R1.out (r := .dat (.tuple ds)) (.inr ⟨p, vs, ds, rfl, rfl, hp, rfl, da⟩)
    exact k _ Hk2 _ R2 (s1.trans s2) o2
  · rw [if_neg hl] at hm
    cases hm
theorem ve_lst (h : VA X es ms) : VE X (.List es pos) (mLst ms) := (pe_lst h).imp fun _ _ _ => lst_run
theorem ve_tup {x1} (h : VA X es ms) : VE X (.Tuple es x1 pos) (mTup ms) := (pe_tup h).imp fun _ _ _ => tup_run
end
inductive ViewAll (K : PySem.W.Frag) (Hk H : Hp) : List V → List PyData → Prop
  | nil : ViewAll K Hk H [] []
  | cons {v : V} {vs : List V} {d : PyData} {ds : List PyData} : View K Hk H v d → ViewAll K Hk H vs ds → ViewAll K Hk H (v :: vs) (d :: ds)
def rdAll (env : Sl) : List Res → Option (List PyData)
  | [] => some []
  | r :: rs => (rdv env r).bind fun d => (rdAll env rs).map (d :: ·)
section
variable {X : Cx} {K : PySem.W.Frag} {m : ME} {ms : MA} {e o : Expr} {es : List Expr} {pos : Pos}
theorem Rel.views {B : Fb} {env : Sl} {σ : St} {Hk : Kn} {H : Hp} (R : Rel K B env σ Hk H) : ∀ {rs : List Res} {vs : List V} {ds : List PyData}, RsAll K σ Hk rs vs → rdAll env rs = some ds → ViewAll K Hk H vs ds
  | _, _, _, .nil, h => by
    cases h
    exact .nil
  | _, _, ds, .cons h1 h2, h => by
    obtain ⟨d, e1, h⟩ := Option.bind_eq_some_iff.mp h
    obtain ⟨ds', e2, e3⟩ := Option.map_eq_some_iff.mp h
    subst e3
    exact .cons (R.view h1 e1) (Rel.views R h2 e2)
def CallD (K : PySem.W.Frag) (r : List V → Hp → VK → Prop) (g : List PyData → Option Res) : Prop := ∀ (Hk H : Hp) (vs : List V) (ds : List PyData) (res : Res) (Q : VK), Same Hk H → ViewAll K Hk H vs ds → g ds = some res → (∀ v H', Out K Hk H res v H' → Q v H') → r vs H Q
def mCB (g : List PyData → Option Res) (ms : MA) : ME := fun env => (ms env).bind fun p => (rdAll p.2 p.1).bind fun ds => (g ds).map fun r => (r, p.2)
theorem cb_run {r : List V → Hp → VK → Prop} {g : List PyData → Option Res} (hg : CallD K r g) {σ : St} {H : Hp} {Q : VK} (h : tE K (mCB g ms) σ H Q) : tCB r (tA K ms) σ H Q := by
  obtain ⟨B, env, Hk, res, env', R, hm, k⟩ := h
  obtain ⟨⟨rs, e1⟩, h1, hm⟩ := Option.bind_eq_some_iff.mp hm
  obtain ⟨ds, h2, hm⟩ := Option.bind_eq_some_iff.mp hm
  obtain ⟨res', h5, hm⟩ := Option.map_eq_some_iff.mp hm
  cases hm
  refine ⟨B, env, Hk, rs, e1, R, h1, fun vs Hk1 H1 R1 s1 o1 => ?_⟩
  refine hg Hk1 H1 vs ds res Q R1.ex (R1.views o1 h2) h5 fun z H3 out => ?_
  obtain ⟨Hk3, R3, s3, o3⟩ := R1.out out
  exact k z Hk3 H3 R3 (s1.trans s3) o3
theorem ve_callB {x : Str} {p : Pos} {id : String} {r : List V → Hp → VK → Prop} {g : List PyData → Option Res} (hc : CallR X (.builtin id) r) (hG : CallD X.K r g) (hg : Gl X x) (hm : X.mg x = none) (hv : bootBuiltins x = some (.builtin id)) (ha : VA X (e :: es) ms) (hn : x ≠ "__name__" := by decide) (hdb : (x == ("__debug__" : Str)) = false := by decide)
    (he : starEach (e :: es) X.env = (false, eval e X.env) :: starEach es X.env := by rfl) (hpl : (backTo pos (starEach es X.env)).any (·.1) = false := by rfl) : VE X (.Call (.Name x p) (e :: es) [] pos) (mCB g ms) :=
  (pe_callB hc hg hm hv ha hn hdb he hpl).imp fun _ _ _ => cb_run hG
theorem ve_callTy {x : Str} {p : Pos} {T : String} {r : List V → Hp → VK → Prop} {g : List PyData → Option Res} (hc : CallR X (.type T) r) (hG : CallD X.K r g) (hg : Gl X x) (hm : X.mg x = none) (hv : bootBuiltins x = some (.type T)) (ha : VA X (e :: es) ms) (hn : x ≠ "__name__" := by decide) (hdb : (x == ("__debug__" : Str)) = false := by decide)
    (he : starEach (e :: es) X.env = (false, eval e X.env) :: starEach es X.env := by rfl) (hpl : (backTo pos (starEach es X.env)).any (·.1) = false := by rfl) : VE X (.Call (.Name x p) (e :: es) [] pos) (mCB g ms) :=
  (pe_callTy hc hg hm hv ha hn hdb he hpl).imp fun _ _ _ => cb_run hG
def tyD : String → PyData → Bool
  | T, .str _ => T == "str"
  | T, .int _ => T == "int"
  | T, .list _ => T == "list"
  | _, _ => false
theorem tyD_V {Hk : Kn} {H : Hp} {T : String} {v : V} {d : PyData} (e : Same Hk H) (h : View K Hk H v d) (t : tyD T d = true) : tyV K T v H := by
  cases d with
  | str x => rw [h.str]; exact (beq_iff_eq.mp t)
  | int x => rw [h.int]; exact (beq_iff_eq.mp t)
  | list ds =>
    obtain ⟨a, vs, rfl, h1, h2⟩ := h.list e
    exact .inl ⟨beq_iff_eq.mp t, vs, SqL.of h1⟩
  | none => cases t
  | bool b => cases t
  | tuple b => cases t
  | dict b => cases t
def MtD (K : PySem.W.Frag) (r : V → List V → Hp → VK → Prop) (g : PyData → List PyData → Option Res) : Prop := ∀ (Hk H : Hp) (x : V) (vs : List V) (d : PyData) (ds : List PyData) (res : Res) (Q : VK), Same Hk H → View K Hk H x d → ViewAll K Hk H vs ds → g d ds = some res → (∀ v H', Out K Hk H res v H' → Q v H') → r x vs H Q
def mBM (T : String) (g : PyData → List PyData → Option Res) (mo : ME) (ms : MA) : ME := fun env => (mo env).bind fun o => (rdv o.2 (stab o.1)).bind fun d0 => if tyD T d0 = true then (ms o.2).bind fun p => (rdv p.2 (stab o.1)).bind fun d => (rdAll p.2 p.1).bind fun ds => (g d ds).map fun r => (r, p.2) else none
theorem bm_run {T : String} {r : V → List V → Hp → VK → Prop} {g : PyData → List PyData → Option Res} (hg : MtD K r g) {σ : St} {H : Hp} {Q : VK} (h : tE K (mBM T g m ms) σ H Q) : tBM K T r (tE K m) (tA K ms) σ H Q := by
  obtain ⟨B, env, Hk, res, env', R, hm, k⟩ := h
  obtain ⟨⟨x, e0⟩, h0, hm⟩ := Option.bind_eq_some_iff.mp hm
  obtain ⟨d0, g0, hm⟩ := Option.bind_eq_some_iff.mp hm
  by_cases ht : tyD T d0 = true
  · rw [if_pos ht] at hm
    obtain ⟨⟨rs, e1⟩, h1, hm⟩ := Option.bind_eq_some_iff.mp hm
    obtain ⟨d, h3, hm⟩ := Option.bind_eq_some_iff.mp hm
    obtain ⟨ds, h2, hm⟩ := Option.bind_eq_some_iff.mp hm
    obtain ⟨res', h5, hm⟩ := Option.map_eq_some_iff.mp hm
    cases hm
    refine ⟨B, env, Hk, x, e0, R, h0, fun v Hk1 H1 R1 s1 o1 => ?_⟩
    obtain ⟨Hk1', R1', s1', o1'⟩ := R1.stab o1
    refine ⟨tyD_V R1'.ex (R1'.view o1' g0) ht, ?_⟩
    refine ⟨B, e0, Hk1', rs, e1, R1', h1, fun vs Hk2 H2 R2 s2 o2 => ?_⟩
    refine hg Hk2 H2 v vs d ds res Q R2.ex (R2.view (o1'.mono s2) h3) (R2.views o2 h2) h5 fun z H3 out => ?_
    obtain ⟨Hk3, R3, s3, o3⟩ := R2.out out
    exact k z Hk3 H3 R3 (((s1.trans s1').trans s2).trans s3) o3
  · rw [if_neg ht] at hm
    cases hm
end
end Cm
namespace Cm
open PySem L2
inductive Fl where
  | nx
  | bk
  | ct
  | rt (r : Res)
  /-- an exception of a class of the module, its fields -/
  | ex (C : Str) (fs : List (Str × PyData))
abbrev MS := Sl → Option (Fl × Sl)
inductive ExFs (K : PySem.W.Frag) (Hk : Hp) : List (Str × V) → List (Str × PyData) → Prop
  | nil : ExFs K Hk [] []
  | cons {k : Str} {v : V} {d : PyData} {vs : List (Str × V)} {ds : List (Str × PyData)} : Dv K Hk v d → ExFs K Hk vs ds → ExFs K Hk ((k, v) :: vs) ((k, d) :: ds)
theorem ExFs.mono {K : PySem.W.Frag} {Hk Hk' : Hp} (e : Same Hk Hk') : ∀ {vs : List (Str × V)} {ds : List (Str × PyData)}, ExFs K Hk vs ds → ExFs K Hk' vs ds
  | _, _, .nil => .nil
  | _, _, .cons h1 h2 => .cons (dv_mono e _ _ h1) (ExFs.mono e h2)
def ExOk (K : PySem.W.Frag) (Hk H : Hp) (d : Option Addr) (fs : List (Str × PyData)) : Prop := match d with
  | none => fs = []
  | some dd => ∃ vs, H dd = some (.xd vs) ∧ ExFs K Hk vs fs
def Fin (K : PySem.W.Frag) (B : Fb) (W : WX) (D : Ends) (f : Fl) (env : Sl) (σ : St) (Hk : Kn) (H : Hp) : Prop := match f with
  | .nx => D.nx σ H
  | .bk => D.bk σ H
  | .ct => D.ct σ H
  | .rt r => ∀ v, ResOk K B env σ Hk H r v → D.rt v H
  | .ex C fs => ∀ d, ExOk K Hk H d fs → W (.ref (He.ga K C)) d σ H
def tS (K : PySem.W.Frag) (W : WX) (m : MS) : TS := fun D σ H => ∃ B env Hk f env', Rel K B env σ Hk H ∧ m env = some (f, env') ∧
  ∀ σ' Hk' H', Rel K B env' σ' Hk' H' → KSame Hk Hk' → Fin K B W D f env' σ' Hk' H'
theorem _root_.L2.PS.imp {X : Cx} {e : Stmt} {t t' : TS} (h : PS X e t) (k : ∀ D σ H, t' D σ H → t D σ H) : PS X e t' := ⟨fun pins s σ H D I q => h.run pins s σ H D I (k D σ H q)⟩
theorem _root_.L2.PSs.imp {X : Cx} {e : List Stmt} {t t' : TS} (h : PSs X e t) (k : ∀ D σ H, t' D σ H → t D σ H) : PSs X e t' := ⟨fun pins s σ H D I q => h.run pins s σ H D I (k D σ H q)⟩
theorem _root_.L2.PI.imp {X : Cx} {tg e : Expr} {t t' : TI} (h : PI X tg e t) (k : ∀ σ H R, t' σ H R → t σ H R) : PI X tg e t' := ⟨fun pins s σ H R I q => h.run pins s σ H R I (k σ H R q)⟩
theorem _root_.L2.PG.imp {X : Cx} {e : Expr} {t t' : TG} (h : PG X e t) (k : ∀ v σ H Q, t' v σ H Q → t v σ H Q) : PG X e t' := ⟨fun pins s σ H v u Q I r q => h.run pins s σ H v u Q I r (k v σ H Q q)⟩
theorem _root_.L2.PGs.imp {X : Cx} {e : List Expr} {t t' : TGs} (h : PGs X e t) (k : ∀ v σ H Q, t' v σ H Q → t v σ H Q) : PGs X e t' := ⟨fun pins s σ H v u Q I r q => h.run pins s σ H v u Q I r (k v σ H Q q)⟩
def VS (X : Cx) (s : Stmt) (m : MS) : Prop := ∀ W, Takes X W → PS X s (tS X.K W m)
def VSs (X : Cx) (s : List Stmt) (m : MS) : Prop := ∀ W, Takes X W → PSs X s (tS X.K W m)
theorem VS.imp {X : Cx} {e : Stmt} {m m' : MS} (h : VS X e m) (k : ∀ W D σ H, tS X.K W m' D σ H → tS X.K W m D σ H) : VS X e m' := fun W t => (h W t).imp (k W)
theorem VSs.imp {X : Cx} {e : List Stmt} {m m' : MS} (h : VSs X e m) (k : ∀ W D σ H, tS X.K W m' D σ H → tS X.K W m D σ H) : VSs X e m' := fun W t => (h W t).imp (k W)
def mSkip : MS := fun env => some (.nx, env)
def mSeq (m n : MS) : MS := fun env => (m env).bind fun p => match p.1 with
  | .nx => n p.2
  | f => some (f, p.2)
def mDrop (m : ME) : MS := fun env => (m env).map fun p => (.nx, p.2)
def mIfS (t : MT) (a b : MS) : MS := fun env => (t env).bind fun p => if p.1 = true then a p.2 else b p.2
def putRes (i : Nat) (p : Res × Sl) : Option Sl := match p.1 with
  | .dat d => some (p.2.set i (.val d))
  | .new c => some (p.2.set i (.own c))
  | .slt j => (frz (.slt j, p.2)).bind fun q => match q.1 with
    | .dat d => some (q.2.set i (.val d))
    | _ => none
  | .pv q => some (p.2.set i (.pv q))
def mSet (i : Nat) (m : ME) : MS := fun env => (m env).bind fun p => (putRes i p).map fun e => (.nx, e)
section
variable {X : Cx} {K : PySem.W.Frag} {m n : MS} {me : ME} {t : MT} {st : Stmt} {rest as bs : List Stmt} {e c : Expr} {pos : Pos}
theorem skip_run {W : WX} {D : Ends} {σ : St} {H : Hp} (h : tS K W mSkip D σ H) : tNext D σ H := by
  obtain ⟨B, env, Hk, f, env', R, hm, k⟩ := h
  cases hm
  exact k σ Hk H R (.refl _)
theorem seq_run {W : WX} {D : Ends} {σ : St} {H : Hp} (h : tS K W (mSeq m n) D σ H) : tSeq (tS K W m) (tS K W n) D σ H := by
  obtain ⟨B, env, Hk, f, env', R, hm, k⟩ := h
  obtain ⟨⟨f1, e1⟩, h1, hm⟩ := Option.bind_eq_some_iff.mp hm
  refine ⟨B, env, Hk, f1, e1, R, h1, fun σ1 Hk1 H1 R1 s1 => ?_⟩
  cases f1 with
  | nx => exact ⟨B, e1, Hk1, f, env', R1, hm, fun σ2 Hk2 H2 R2 s2 => k σ2 Hk2 H2 R2 (s1.trans s2)⟩
  | bk => cases hm; exact k σ1 Hk1 H1 R1 s1
  | ct => cases hm; exact k σ1 Hk1 H1 R1 s1
  | rt r => cases hm; exact k σ1 Hk1 H1 R1 s1
  | ex C fs => cases hm; exact k σ1 Hk1 H1 R1 s1
theorem vs_nil : VSs X [] mSkip := fun W _ => pss_nil.imp fun _ _ _ => skip_run
theorem vs_cons (h1 : VS X st m) (h2 : VSs X rest n) : VSs X (st :: rest) (mSeq m n) := fun W t => (pss_cons (h1 W t) (h2 W t)).imp fun _ _ _ => seq_run
theorem vs_one (h1 : VS X st m) : VSs X [st] m := fun W t => pss_one (h1 W t)
theorem drop_run {W : WX} {D : Ends} {σ : St} {H : Hp} (h : tS K W (mDrop me) D σ H) : tDrop (tE K me) D σ H := by
  obtain ⟨B, env, Hk, f, env', R, hm, k⟩ := h
  obtain ⟨⟨r1, e1⟩, h1, hm⟩ := Option.map_eq_some_iff.mp hm
  cases hm
  exact ⟨B, env, Hk, r1, e1, R, h1, fun v Hk1 H1 R1 s1 o1 => k σ Hk1 H1 R1 s1⟩
theorem vs_expr (he : VE X e me) (hs : swapsWith e none pos.line X.env = pure false := by rfl) : VS X (.Expr e pos) (mDrop me) := fun W _ => (ps_expr he hs).imp fun _ _ _ => drop_run
theorem ifS_run {W : WX} {D : Ends} {σ : St} {H : Hp} (h : tS K W (mIfS t m n) D σ H) : tIfS (tT K t) (tS K W m) (tS K W n) D σ H := by
  obtain ⟨B, env, Hk, f, env', R, hm, k⟩ := h
  obtain ⟨⟨b, e1⟩, h1, hm⟩ := Option.bind_eq_some_iff.mp hm
  refine ⟨B, env, Hk, b, e1, R, h1, fun Hk1 H1 R1 s1 => ?_⟩
  cases b with
  | true => exact ⟨B, e1, Hk1, f, env', R1, hm, fun σ2 Hk2 H2 R2 s2 => k σ2 Hk2 H2 R2 (s1.trans s2)⟩
  | false => exact ⟨B, e1, Hk1, f, env', R1, hm, fun σ2 Hk2 H2 R2 s2 => k σ2 Hk2 H2 R2 (s1.trans s2)⟩
theorem vs_if (hc : VT X c t) (ha : VSs X as m) (hb : VSs X bs n) : VS X (.If c as bs pos) (mIfS t m n) := fun W t => (ps_if hc (ha W t) (hb W t)).imp fun _ _ _ => ifS_run
theorem Rel.put {B : Fb} {env env' : Sl} {σ : St} {Hk : Kn} {H : Hp} {r : Res} {v : V} {i : Nat} (R : Rel K B env σ Hk H) (o : ResOk K B env σ Hk H r v) (h : putRes i (r, env) = some env') : ∃ Hk' : Kn, KSame Hk Hk' ∧ Rel K B env' (σ.set i (some v)) Hk' H := by
  cases r with
  | dat d =>
    cases h
    exact ⟨Hk, .refl _, R.setVal o⟩
  | new c =>
    cases h
    obtain ⟨a, rfl, h1, h2, h3, h5, h4⟩ := o
    exact ⟨Hk, .refl _, R.setOwn h1 h2 h3 h5 h4⟩
  | pv p =>
    cases h
    exact ⟨Hk, .refl _, R.setPv o⟩
  | slt j =>
    obtain ⟨⟨r', e'⟩, h1, h2⟩ := Option.bind_eq_some_iff.mp h
    obtain ⟨Hk', d, rfl, R', s, z⟩ := R.frz o h1
    cases h2
    exact ⟨Hk', s, R'.setVal z⟩
theorem set_run {i : Nat} {W : WX} {D : Ends} {σ : St} {H : Hp} (h : tS K W (mSet i me) D σ H) : tAsg (tE K me) (gName i) D σ H := by
  obtain ⟨B, env, Hk, f, env', R, hm, k⟩ := h
  obtain ⟨⟨r1, e1⟩, h1, hm⟩ := Option.bind_eq_some_iff.mp hm
  obtain ⟨e2, h2, hm⟩ := Option.map_eq_some_iff.mp hm
  cases hm
  refine ⟨B, env, Hk, r1, e1, R, h1, fun v Hk1 H1 R1 s1 o1 => ?_⟩
  obtain ⟨Hk2, s2, R2⟩ := R1.put o1 h2
  exact k _ Hk2 H1 R2 (s1.trans s2)
theorem vs_set {i : Nat} {x : Str} {pos' : Pos} (hN : X.N.Nodup) (he : VE X e me) (hi : X.N[i]? = some x := by rfl) (hx : Loc X.env.scope x := by first | exact Or.inl rfl | exact Or.inr rfl) (hs : swapsWith e (some (.Name x pos')) pos.line X.env = pure false := by rfl) (hf : X.fn x = true ∨ X.env.scope.names.lookup x = some .local := by first | exact .inl rfl | exact .inr rfl | assumption) :
    VS X (.Assign [.Name x pos'] e pos) (mSet i me) := fun W _ => (ps_set hN hi hx he hs hf).imp fun _ _ _ => set_run
end
def Fb.guard (B : Fb) (p : Addr) (o : HO) : Fb := ⟨B.K0, upd B.H0 p o, B.A, B.P, B.S⟩
section
variable {K : PySem.W.Frag} {B : Fb} {env : Sl} {σ : St} {Hk : Kn} {H : Hp} {p : Addr} {o : HO}
theorem Rel.guard (R : Rel K B env σ Hk H) (h : H p = some o) (hk : Hk p = none) (h0 : B.H0 p = none) (hP : ∀ (n : Nat), Hk.P n ≠ some p) (hn : ∀ (j : Nat) s, env[j]? = some s → s.mut → σ[j]? ≠ some (some (V.ref p))) : Rel K (B.guard p o) env σ Hk H where
  ex := R.ex
  kn := R.kn
  fr := fun a h1 h2 => by
    have ne : a ≠ p := fun z => h1 (by rw [z]; exact hk)
    show upd B.H0 p o a = none
    rw [upd_ne ne]
    exact R.fr a h1 h2
  kp := fun a u h1 h2 => by
    by_cases e : a = p
    · subst e
      have h1 : upd B.H0 a o a = some u := h1
      rw [upd_same] at h1
      rw [← h1]
      exact h
    · have h1 : upd B.H0 p o a = some u := h1
      rw [upd_ne e] at h1
      exact R.kp a u h1 h2
  oin := R.oin
  o0 := fun a ha => by
    show upd B.H0 p o a ≠ none
    by_cases e : a = p
    · rw [e, upd_same]
      exact fun z => nomatch z
    · rw [upd_ne e]
      exact R.o0 a ha
  len := R.len
  slot := fun i s hi => by
    obtain ⟨u, h1, h2⟩ := R.slot i s hi
    refine ⟨u, h1, ?_⟩
    cases s with
    | no => trivial
    | val d => exact h2
    | scr d => exact h2
    | pin a => exact h2
    | pv p => exact h2
    | sto M => trivial
    | io k c => exact h2
    | own c =>
      obtain ⟨a, e1, q1, q2, q3⟩ := h2
      have ne : a ≠ p := fun z => by
        subst e1 z
        exact hn i _ hi trivial h1
      refine ⟨a, e1, q1, ?_, q3⟩
      show upd B.H0 p o a = none
      rw [upd_ne ne]
      exact q2
  sep := R.sep
  sok := fun M h => let S := R.sok M h; ⟨S.cel, S.inj, S.top⟩
  pin := fun n a h => by
    refine ⟨(R.pin n a h).1, fun z => ?_⟩
    have ne : a ≠ p := fun e => hP n (e ▸ h)
    rcases (R.pin n a h).2 z with q | q
    · refine .inl ?_
      show upd B.H0 p o a = none
      rw [upd_ne ne]
      exact q
    · exact .inr q
  psep := R.psep
theorem Rel.unguard (R : Rel K (B.guard p o) env σ Hk H) (h0 : B.H0 p = none) (hK : B.K0 p = none) (hO : ¬ B.io p) : Rel K B env σ Hk H ∧ H p = some o ∧ Hk p = none ∧ (∀ (n : Nat), Hk.P n ≠ some p) ∧ ∀ (j : Nat) s, env[j]? = some s → s.mut → σ[j]? ≠ some (some (V.ref p)) := by
  have hp : H p = some o := R.kp p o (show upd B.H0 p o p = some o from upd_same) hO
  have hk : Hk p = none := by
    cases q : Hk p with
    | none => rfl
    | some u =>
      have z := R.fr p (ne_none q) hK
      rw [show (B.guard p o).H0 p = some o from upd_same] at z
      cases z
  have back : ∀ a, (B.guard p o).H0 a = none → a ≠ p ∧ B.H0 a = none := fun a z => by
    have z : upd B.H0 p o a = none := z
    by_cases e : a = p
    · rw [e, upd_same] at z
      cases z
    · rw [upd_ne e] at z
      exact ⟨e, z⟩
  have hPp : ∀ (n : Nat), Hk.P n ≠ some p := fun n e => by
    rcases (R.pin n p e).2 hk with q | q
    · exact (back p q).1 rfl
    · exact hO q
  refine ⟨⟨R.ex, R.kn, fun a h1 h2 => (back a (R.fr a h1 h2)).2, fun a u h1 h2 => ?_, R.oin, fun a ha z => ?_, R.len, fun i s hi => ?_, R.sep, fun M h => let S := R.sok M h; ⟨S.cel, S.inj, S.top⟩, fun n a h => ⟨(R.pin n a h).1, fun z => ((R.pin n a h).2 z).imp (fun q => (back a q).2) id⟩, R.psep⟩, hp, hk, hPp, fun j s hj hm z => ?_⟩
  · have ne : a ≠ p := fun e => by rw [e, h0] at h1; cases h1
    exact R.kp a u (by show upd B.H0 p o a = some u; rw [upd_ne ne]; exact h1) h2
  · have ne : a ≠ p := fun e => hO (by rw [← e]; exact ha)
    exact R.o0 a ha (by show upd B.H0 p o a = none; rw [upd_ne ne]; exact z)
  · obtain ⟨u, h1, h2⟩ := R.slot i s hi
    refine ⟨u, h1, ?_⟩
    cases s with
    | no => trivial
    | val d => exact h2
    | scr d => exact h2
    | pin a => exact h2
    | pv p => exact h2
    | sto M => trivial
    | io k c => exact h2
    | own c =>
      obtain ⟨a, e1, q1, q2, q3⟩ := h2
      exact ⟨a, e1, q1, (back a q2).2, q3⟩
  · obtain ⟨u, h1, h2⟩ := R.slot j s hj
    rw [z] at h1
    cases h1
    cases s with
    | no => cases hm
    | val d => cases hm
    | scr d => cases hm
    | pin a => cases hm
    | pv p => cases hm
    | sto M => cases hm
    | io k c =>
      obtain ⟨a, e1, q1, q2, q3⟩ := h2
      cases e1
      exact hO (.inl ⟨k, q2⟩)
    | own c =>
      obtain ⟨a, e1, q1, q2, q3⟩ := h2
      cases e1
      exact (back _ q2).1 rfl
theorem Rel.other (R : Rel K B env σ Hk H) {u : HO} (hk : Hk p = none) (h0 : B.H0 p = none) (hP : ∀ (n : Nat), Hk.P n ≠ some p) (hx : ∀ x, H p ≠ some (.own x)) (hn : ∀ (j : Nat) s, env[j]? = some s → s.mut → σ[j]? ≠ some (some (V.ref p))) : Rel K B env σ Hk (upd H p u) where
  ex := fun b x e => by
    have ne : b ≠ p := fun z => by rw [z, hk] at e; cases e
    rw [upd_ne ne]
    exact R.ex _ _ e
  kn := R.kn
  fr := R.fr
  kp := fun a x h1 h2 => by
    have ne : a ≠ p := fun z => by rw [z, h0] at h1; cases h1
    rw [upd_ne ne]
    exact R.kp a x h1 h2
  oin := fun a ha => by
    refine ⟨?_, (R.oin a ha).2⟩
    by_cases e : a = p
    · rw [e, upd_same]
      exact fun z => nomatch z
    · rw [upd_ne e]
      exact (R.oin a ha).1
  o0 := R.o0
  len := R.len
  slot := fun i s hi => by
    obtain ⟨x, h1, h2⟩ := R.slot i s hi
    refine ⟨x, h1, ?_⟩
    cases s with
    | no => trivial
    | val d => exact h2
    | scr d => exact h2
    | pin a => exact h2
    | pv p => exact h2
    | sto M => trivial
    | own c =>
      obtain ⟨a, e1, q1, q2, q3⟩ := h2
      have ne : a ≠ p := fun z => by
        subst e1 z
        exact hn i _ hi trivial h1
      exact ⟨a, e1, q1, q2, q3.mono (.refl _) fun o z => by rw [upd_ne ne]; exact z⟩
    | io k c =>
      obtain ⟨a, e1, q1, q2, q3⟩ := h2
      have ne : a ≠ p := fun z => by
        subst e1 z
        exact hn i _ hi trivial h1
      exact ⟨a, e1, q1, q2, q3.mono (.refl _) fun o z => by rw [upd_ne ne]; exact z⟩
  sep := R.sep
  sok := fun M h => (R.sok M h).mono (.refl _) rfl (fun _ _ _ z => z) (fun b o ⟨n, hb⟩ z => by
    have ne : b ≠ p := fun e => hP n (e ▸ hb)
    rw [upd_ne ne]
    exact z) fun dx b z => by
    have ne : dx ≠ p := fun e => hx b (e ▸ z)
    rw [upd_ne ne]
    exact z
  pin := fun n b h => by
    have ne : b ≠ p := fun e => hP n (e ▸ h)
    rw [upd_ne ne]
    exact R.pin n b h
  psep := R.psep
theorem Rel.free0 (R : Rel K B env σ Hk H) (h : Hk p = none) : B.K0 p = none := R.kn.free h
theorem Rel.nO (R : Rel K B env σ Hk H) (h : B.H0 p = none) : ¬ B.io p := fun z => R.o0 p z h
theorem Rel.wait (R : Rel K B env σ Hk H) {r : Res} {v : V} (o : ResOk K B env σ Hk H r v) :
    ∃ B', Rel K B' env σ Hk H ∧ ∀ {env' : Sl} {Hk' : Kn} {H' : Hp}, Rel K B' env' σ Hk' H' → KSame Hk Hk' → Rel K B env' σ Hk' H' ∧ ResOk K B env' σ Hk' H' r v ∧
      ∀ {r' : Res} {v' : V}, ResOk K B' env' σ Hk' H' r' v' → ResOk K B env' σ Hk' H' r' v' ∧ ∀ c c' a, r = .new c → r' = .new c' → v = .ref a → v' ≠ .ref a := by
  have triv : ∀ {env' : Sl} {Hk' : Kn} {H' : Hp} {r' : Res} {v' : V}, (∀ c, r ≠ .new c) → ResOk K B env' σ Hk' H' r' v' → ResOk K B env' σ Hk' H' r' v' ∧ ∀ c c' a, r = .new c → r' = .new c' → v = .ref a → v' ≠ .ref a := fun hr o' => ⟨o', fun c c' a e => absurd e (hr c)⟩
  cases r with
  | dat d => exact ⟨B, R, fun R' s => ⟨R', dv_mono s d v o, triv fun c z => by cases z⟩⟩
  | slt i => exact ⟨B, R, fun R' s => ⟨R', o, triv fun c z => by cases z⟩⟩
  | pv p => exact ⟨B, R, fun R' s => ⟨R', PvOk.mono s o, triv fun c z => by cases z⟩⟩
  | new c =>
    obtain ⟨a, rfl, h1, h2, h3, h5, h4⟩ := o
    obtain ⟨u, hu⟩ := h3.there
    refine ⟨B.guard a u, R.guard hu h1 h2 h5 h4, fun {env' Hk' H'} R' s => ?_⟩
    obtain ⟨R2, q1, q2, q4, q3⟩ := R'.unguard h2 (R.free0 h1) (R.nO h2)
    refine ⟨R2, ⟨a, rfl, q2, h2, h3.mono s fun o z => by rw [hu] at z; rw [← z]; exact q1, q4, q3⟩, fun {r' v'} o' => ?_⟩
    cases r' with
    | dat d => exact ⟨o', fun c c' b _ e => by cases e⟩
    | slt i => exact ⟨o', fun c c' b _ e => by cases e⟩
    | pv p => exact ⟨o', fun c c' b _ e => by cases e⟩
    | new c' =>
      obtain ⟨b, rfl, g1, g2, g3, g5, g4⟩ := o'
      have g2 : upd B.H0 a u b = none := g2
      have ne : b ≠ a := fun e => by rw [e, upd_same] at g2; cases g2
      rw [upd_ne ne] at g2
      refine ⟨⟨b, rfl, g1, g2, g3, g5, g4⟩, fun _ _ x _ _ e1 e2 => ?_⟩
      cases e1
      exact ne (V.ref.inj e2)
end
end Cm
namespace Cm
open PySem L2
def frzS : Res × Sl → Option (Res × Sl)
  | (.slt i, e) => frz (.slt i, e)
  | p => some p
def mFrzS (m : ME) : ME := fun env => (m env).bind frzS
def NewAt (r : Res) (v : V) (a : Addr) : Prop := (∃ c, r = .new c) ∧ v = .ref a
inductive RuAll (K : PySem.W.Frag) (B : Fb) (env : Sl) (σ : St) (Hk : Kn) (H : Hp) : List Res → List V → Prop
  | nil : RuAll K B env σ Hk H [] []
  | cons {r : Res} {v : V} {rs : List Res} {vs : List V} : ResOk K B env σ Hk H r v → (∀ i, r ≠ .slt i) → RuAll K B env σ Hk H rs vs → (∀ a, NewAt r v a → ∀ (j : Nat) r' v', rs[j]? = some r' → vs[j]? = some v' → ¬ NewAt r' v' a) → RuAll K B env σ Hk H (r :: rs) (v :: vs)
def tAU (K : PySem.W.Frag) (m : MA) : TA := fun σ H Q => ∃ B env Hk rs env', Rel K B env σ Hk H ∧ m env = some (rs, env') ∧
  ∀ vs Hk' H', Rel K B env' σ Hk' H' → KSame Hk Hk' → RuAll K B env' σ Hk' H' rs vs → Q vs H'
abbrev VAU (X : Cx) (es : List Expr) (m : MA) : Prop := PA X es (tAU X.K m)
def mConsU (m : ME) (ms : MA) : MA := fun env => (mFrzS m env).bind fun p => (ms p.2).map fun q => (p.1 :: q.1, q.2)
section
variable {X : Cx} {K : PySem.W.Frag} {m : ME} {ms : MA} {e : Expr} {es : List Expr} {pos : Pos}
theorem Rel.frzS {B : Fb} {env env' : Sl} {σ : St} {Hk : Kn} {H : Hp} {r r' : Res} {v : V} (R : Rel K B env σ Hk H) (o : ResOk K B env σ Hk H r v) (h : Cm.frzS (r, env) = some (r', env')) :
    ∃ Hk' : Kn, Rel K B env' σ Hk' H ∧ KSame Hk Hk' ∧ ResOk K B env' σ Hk' H r' v ∧ ∀ i, r' ≠ .slt i := by
  cases r with
  | dat d =>
    cases h
    exact ⟨Hk, R, .refl _, o, fun i z => by cases z⟩
  | new c =>
    cases h
    exact ⟨Hk, R, .refl _, o, fun i z => by cases z⟩
  | pv p =>
    cases h
    exact ⟨Hk, R, .refl _, o, fun i z => by cases z⟩
  | slt i =>
    obtain ⟨Hk', d, rfl, R', s, z⟩ := R.frz o h
    exact ⟨Hk', R', s, z, fun i z => by cases z⟩
theorem RuAll.back {B B' : Fb} {env' : Sl} {σ : St} {Hk' : Kn} {H' : Hp} (f : ∀ {r' : Res} {v' : V}, ResOk K B' env' σ Hk' H' r' v' → ResOk K B env' σ Hk' H' r' v') : ∀ {rs : List Res} {vs : List V}, RuAll K B' env' σ Hk' H' rs vs → RuAll K B env' σ Hk' H' rs vs
  | _, _, .nil => .nil
  | _, _, .cons h1 h2 h3 h4 => .cons (f h1) h2 (RuAll.back f h3) h4
theorem RuAll.get {B : Fb} {env : Sl} {σ : St} {Hk : Kn} {H : Hp} : ∀ {rs : List Res} {vs : List V}, RuAll K B env σ Hk H rs vs → ∀ (j : Nat) r v, rs[j]? = some r → vs[j]? = some v → ResOk K B env σ Hk H r v
  | _, _, .nil, j, r, v, h, _ => by simp at h
  | _, _, .cons h1 _ _ _, 0, r, v, h, h' => by
    simp at h h'
    subst h h'
    exact h1
  | _, _, .cons _ _ h3 _, j + 1, r, v, h, h' => RuAll.get h3 j r v (by simpa using h) (by simpa using h')
theorem nilU_run {σ : St} {H : Hp} {Q : List V → Hp → Prop} (h : tAU K mNil σ H Q) : tNil σ H Q := by
  obtain ⟨B, env, Hk, rs, env', R, hm, k⟩ := h
  cases hm
  exact k [] Hk H R (.refl _) .nil
theorem consU_run {σ : St} {H : Hp} {Q : List V → Hp → Prop} (h : tAU K (mConsU m ms) σ H Q) : tCons (tE K m) (tAU K ms) σ H Q := by
  obtain ⟨B, env, Hk, rs, env', R, hm, k⟩ := h
  obtain ⟨⟨x, e1⟩, h1, hm⟩ := Option.bind_eq_some_iff.mp hm
  obtain ⟨⟨x0, e0⟩, h0, h1⟩ := Option.bind_eq_some_iff.mp h1
  obtain ⟨⟨xs, e2⟩, h2, hm⟩ := Option.map_eq_some_iff.mp hm
  cases hm
  refine ⟨B, env, Hk, x0, e0, R, h0, fun v Hk1 H1 R1 s1 o1 => ?_⟩
  obtain ⟨Hk1', R1', s1', o1', n1⟩ := R1.frzS o1 h1
  obtain ⟨B', R2, back⟩ := R1'.wait o1'
  refine ⟨B', e1, Hk1', xs, e2, R2, h2, fun vs Hk2 H2 R3 s2 o2 => ?_⟩
  obtain ⟨R4, o4, b4⟩ := back R3 s2
  refine k _ Hk2 H2 R4 ((s1.trans s1').trans s2) (.cons o4 n1 (o2.back fun o => (b4 o).1) fun a hna j r' v' hj hj' hnb => ?_)
  obtain ⟨⟨c, rfl⟩, rfl⟩ := hna
  obtain ⟨⟨c', rfl⟩, rfl⟩ := hnb
  exact (b4 (o2.get j _ _ hj hj')).2 c c' a rfl rfl rfl rfl
theorem vau_nil : VAU X [] mNil := pa_nil.imp fun _ _ _ => nilU_run
theorem vau_cons (ha : VE X e m) (hr : VAU X es ms) (hs : starEach (e :: es) X.env = (false, eval e X.env) :: starEach es X.env := by rfl) : VAU X (e :: es) (mConsU m ms) := (pa_cons ha hr hs).imp fun _ _ _ => consU_run
end
def putsRes : List Nat → List Res → Sl → Option Sl
  | [], [], e => some e
  | i :: is, r :: rs, e => (putRes i (r, e)).bind (putsRes is rs)
  | _, _, _ => none
def setAll : St → List Nat → List V → St
  | σ, i :: is, v :: vs => setAll (σ.set i (some v)) is vs
  | σ, _, _ => σ
def mPutU (is : List Nat) (ms : MA) : MS := fun env => (ms env).bind fun p => (putsRes is p.1 p.2).map fun e => (.nx, e)
section
variable {X : Cx} {K : PySem.W.Frag} {ms : MA} {e : Expr} {es : List Expr} {pos : Pos}
theorem RuAll.put {B : Fb} {env env' : Sl} {σ : St} {Hk : Kn} {H : Hp} {i : Nat} {r : Res} {v : V} (o : ResOk K B env σ Hk H r v) (n : ∀ i, r ≠ .slt i) (h : putRes i (r, env) = some env') :
    ∀ {rs : List Res} {vs : List V}, RuAll K B env σ Hk H rs vs → (∀ a, NewAt r v a → ∀ (j : Nat) r' v', rs[j]? = some r' → vs[j]? = some v' → ¬ NewAt r' v' a) → RuAll K B env' (σ.set i (some v)) Hk H rs vs
  | _, _, .nil, _ => .nil
  | r' :: rs, v' :: vs, .cons h1 h2 h3 h4, hn => by
    refine .cons ?_ h2 (RuAll.put o n h h3 fun a ha j r2 v2 e1 e2 => hn a ha (j + 1) r2 v2 (by simpa using e1) (by simpa using e2)) h4
    cases r' with
    | dat d => exact h1
    | pv p => exact h1
    | slt j => exact absurd rfl (h2 j)
    | new c =>
      obtain ⟨a, rfl, q1, q2, q3, q5, q4⟩ := h1
      refine ⟨a, rfl, q1, q2, q3, q5, fun j s hj hm z => ?_⟩
      cases r with
      | slt j => exact absurd rfl (n j)
      | pv p =>
        cases h
        rcases set_get hj with ⟨rfl, rfl⟩ | ⟨ne, hj⟩
        · cases hm
        · rw [List.getElem?_set_ne (fun z => ne z.symm)] at z
          exact q4 j s hj hm z
      | dat d =>
        cases h
        rcases set_get hj with ⟨rfl, rfl⟩ | ⟨ne, hj⟩
        · cases hm
        · rw [List.getElem?_set_ne (fun z => ne z.symm)] at z
          exact q4 j s hj hm z
      | new c2 =>
        cases h
        obtain ⟨b, rfl, _⟩ := o
        rcases set_get hj with ⟨rfl, rfl⟩ | ⟨ne, hj⟩
        · rcases set_get z with ⟨_, e⟩ | ⟨z2, _⟩
          · cases e
            exact hn a ⟨⟨c2, rfl⟩, rfl⟩ 0 _ _ rfl rfl ⟨⟨c, rfl⟩, rfl⟩
          · exact absurd rfl z2
        · rw [List.getElem?_set_ne (fun z => ne z.symm)] at z
          exact q4 j s hj hm z
theorem Rel.puts {B : Fb} : ∀ {is : List Nat} {rs : List Res} {vs : List V} {env env' : Sl} {σ : St} {Hk : Kn} {H : Hp}, Rel K B env σ Hk H → RuAll K B env σ Hk H rs vs → putsRes is rs env = some env' → Rel K B env' (setAll σ is vs) Hk H ∧ is.length = vs.length
  | [], [], _, env, env', σ, Hk, H, R, .nil, h => by
    cases h
    exact ⟨R, rfl⟩
  | i :: is, r :: rs, _, env, env', σ, Hk, H, R, .cons (v := v) (vs := vs) h1 h2 h3 h4, h => by
    obtain ⟨e1, g1, g2⟩ := Option.bind_eq_some_iff.mp h
    have R1 : Rel K B e1 (σ.set i (some v)) Hk H := by
      cases r with
      | slt j => exact absurd rfl (h2 j)
      | dat d =>
        cases g1
        exact R.setVal h1
      | pv p =>
        cases g1
        exact R.setPv h1
      | new c =>
        cases g1
        obtain ⟨a, rfl, q1, q2, q3, q5, q4⟩ := h1
        exact R.setOwn q1 q2 q3 q5 q4
    obtain ⟨R2, l⟩ := Rel.puts R1 (RuAll.put h1 h2 g1 h3 h4) g2
    exact ⟨R2, by simp [l]⟩
  | [], _ :: _, _, env, env', σ, Hk, H, R, _, h => by cases h
  | _ :: _, [], _, env, env', σ, Hk, H, R, _, h => by cases h
theorem par_run {i j : Nat} {W : WX} {D : Ends} {σ : St} {H : Hp} (h : tS K W (mPutU [i, j] ms) D σ H) : tPar i j (tAU K ms) D σ H := by
  obtain ⟨B, env, Hk, f, env', R, hm, k⟩ := h
  obtain ⟨⟨rs, e1⟩, h1, hm⟩ := Option.bind_eq_some_iff.mp hm
  obtain ⟨e2, h2, hm⟩ := Option.map_eq_some_iff.mp hm
  cases hm
  refine ⟨B, env, Hk, rs, e1, R, h1, fun vs Hk1 H1 R1 s1 o1 => ?_⟩
  obtain ⟨R2, l⟩ := R1.puts o1 h2
  match vs, l with
  | [v, w], _ => exact ⟨v, w, rfl, k _ Hk1 H1 R2 s1⟩
theorem par3_run {i j l : Nat} {W : WX} {D : Ends} {σ : St} {H : Hp} (h : tS K W (mPutU [i, j, l] ms) D σ H) : tPar3 i j l (tAU K ms) D σ H := by
  obtain ⟨B, env, Hk, f, env', R, hm, k⟩ := h
  obtain ⟨⟨rs, e1⟩, h1, hm⟩ := Option.bind_eq_some_iff.mp hm
  obtain ⟨e2, h2, hm⟩ := Option.map_eq_some_iff.mp hm
  cases hm
  refine ⟨B, env, Hk, rs, e1, R, h1, fun vs Hk1 H1 R1 s1 o1 => ?_⟩
  obtain ⟨R2, l⟩ := R1.puts o1 h2
  match vs, l with
  | [u, v, w], _ => exact ⟨u, v, w, rfl, k _ Hk1 H1 R2 s1⟩
theorem vs_par {i j : Nat} {x y : Str} {a b : Expr} {px py pt : Pos} {kt k2 pt2} (hN : X.N.Nodup) (ha : VAU X [a, b] ms) (hc : X.calm = true := by rfl) (hi : X.N[i]? = some x := by rfl) (hj : X.N[j]? = some y := by rfl) (hij : i ≠ j := by decide)
    (hx : X.env.scope.names.lookup x = some .local := by rfl) (hy : X.env.scope.names.lookup y = some .local := by rfl)
    (hw : swappedStores [.Tuple [.Name x px, .Name y py] kt pt] (.Tuple [a, b] k2 pt2) X.env = pure (some [x, y]) := by rfl)
    (hs : swapsWithSole [.Tuple [.Name x px, .Name y py] kt pt] (.Tuple [a, b] k2 pt2) pos.line X.env = pure false := by rfl) :
    VS X (.Assign [.Tuple [.Name x px, .Name y py] kt pt] (.Tuple [a, b] k2 pt2) pos) (mPutU [i, j] ms) := fun W _ => (ps_par hc hN hi hj hij hx hy ha hw hs).imp fun _ _ _ => par_run
theorem vs_par3 {i j l : Nat} {x y z : Str} {a b c : Expr} {px py pz pt : Pos} {kt k2 pt2} (hN : X.N.Nodup) (ha : VAU X [a, b, c] ms) (hc : X.calm = true := by rfl) (hi : X.N[i]? = some x := by rfl) (hj : X.N[j]? = some y := by rfl) (hl : X.N[l]? = some z := by rfl) (hij : i ≠ j := by decide) (hil : i ≠ l := by decide) (hjl : j ≠ l := by decide)
    (hx : X.env.scope.names.lookup x = some .local := by rfl) (hy : X.env.scope.names.lookup y = some .local := by rfl) (hz : X.env.scope.names.lookup z = some .local := by rfl)
    (hw : swappedStores [.Tuple [.Name x px, .Name y py, .Name z pz] kt pt] (.Tuple [a, b, c] k2 pt2) X.env = pure (some [x, y, z]) := by rfl)
    (hs : swapsWithSole [.Tuple [.Name x px, .Name y py, .Name z pz] kt pt] (.Tuple [a, b, c] k2 pt2) pos.line X.env = pure false := by rfl) :
    VS X (.Assign [.Tuple [.Name x px, .Name y py, .Name z pz] kt pt] (.Tuple [a, b, c] k2 pt2) pos) (mPutU [i, j, l] ms) := fun W _ => (ps_par3 hc hN hi hj hl hij hil hjl hx hy hz ha hw hs).imp fun _ _ _ => par3_run
end
abbrev MG := PyData → Sl → Option Sl
def tG (K : PySem.W.Frag) (js : List Nat) (mg : MG) : TG := fun v σ H Q => ∃ B env Hk d env', Rel K B env σ Hk H ∧ Dv K Hk v d ∧ mg d env = some env' ∧
  ∀ σ' Hk' H', Rel K B env' σ' Hk' H' → KSame Hk Hk' → (∀ i, i ∉ js → σ'[i]? = σ[i]?) → σ'.length = σ.length → Q σ' H'
def mgName (j : Nat) : MG := fun d env => some (env.set j (.val d))
abbrev VG (X : Cx) (e : Expr) (js : List Nat) (mg : MG) : Prop := PG X e (tG X.K js mg)
abbrev MGs := List PyData → Sl → Option Sl
def tGs (K : PySem.W.Frag) (js : List Nat) (mg : MGs) : TGs := fun vs σ H Q => ∃ B env Hk ds env', Rel K B env σ Hk H ∧ DvAll K Hk vs ds ∧ mg ds env = some env' ∧
  ∀ σ' Hk' H', Rel K B env' σ' Hk' H' → KSame Hk Hk' → (∀ i, i ∉ js → σ'[i]? = σ[i]?) → σ'.length = σ.length → Q σ' H'
def mgNil : MGs := fun ds env => match ds with
  | [] => some env
  | _ => none
def mgCons (g : MG) (gs : MGs) : MGs := fun ds env => match ds with
  | d :: ds => (g d env).bind (gs ds)
  | _ => none
def mgTup (gs : MGs) : MG := fun d env => match d with
  | .tuple ds => gs ds env
  | _ => none
section
variable {X : Cx} {K : PySem.W.Frag} {js is : List Nat} {g : MG} {gs : MGs} {pos : Pos}
theorem gname_run {j : Nat} {v : V} {σ : St} {H : Hp} {Q : St → Hp → Prop} (h : tG K [j] (mgName j) v σ H Q) : gName j v σ H Q := by
  obtain ⟨B, env, Hk, d, env', R, hd, hm, k⟩ := h
  cases hm
  exact k _ _ _ (R.setVal hd) (.refl _) (fun i hi => List.getElem?_set_ne (fun z => hi (by simp [z]))) (List.length_set)
theorem vg_name {j : Nat} {x : Str} (hN : X.N.Nodup) (hi : X.N[j]? = some x := by rfl) (hx : Loc X.env.scope x := by first | exact Or.inl rfl | exact Or.inr rfl) (hf : X.fn x = true ∨ X.env.scope.names.lookup x = some .local := by first | exact .inl rfl | exact .inr rfl | assumption) : VG X (.Name x pos) [j] (mgName j) :=
  (pg_name hN hi hx hf).imp fun _ _ _ _ => gname_run
theorem gnil_run {vs : List V} {σ : St} {H : Hp} {Q : St → Hp → Prop} (h : tGs K [] mgNil vs σ H Q) : gNil vs σ H Q := by
  obtain ⟨B, env, Hk, ds, env', R, hd, hm, k⟩ := h
  cases hd with
  | nil =>
    cases hm
    exact ⟨rfl, k σ _ _ R (.refl _) (fun _ _ => rfl) rfl⟩
  | cons _ _ => cases hm
theorem gcons_run {vs : List V} {σ : St} {H : Hp} {Q : St → Hp → Prop} (h : tGs K (js ++ is) (mgCons g gs) vs σ H Q) : gCons (tG K js g) (tGs K is gs) vs σ H Q := by
  obtain ⟨B, env, Hk, ds, env', R, hd, hm, k⟩ := h
  cases hd with
  | nil => cases hm
  | cons h1 h2 =>
    obtain ⟨e1, g1, g2⟩ := Option.bind_eq_some_iff.mp hm
    refine ⟨_, _, rfl, B, env, Hk, _, e1, R, h1, g1, fun σ1 Hk1 H1 R1 s1 d1 l1 => ?_⟩
    refine ⟨B, e1, Hk1, _, env', R1, dvAll_mono s1 _ _ h2, g2, fun σ2 Hk2 H2 R2 s2 d2 l2 => ?_⟩
    refine k σ2 Hk2 H2 R2 (s1.trans s2) (fun i hi => ?_) (l2.trans l1)
    rw [d2 i (fun z => hi (List.mem_append_right _ z)), d1 i (fun z => hi (List.mem_append_left _ z))]
theorem vgs_nil : PGs X [] (tGs X.K [] mgNil) := pgs_nil.imp fun _ _ _ _ => gnil_run
theorem vgs_cons {e : Expr} {es : List Expr} (h1 : VG X e js g) (h2 : PGs X es (tGs X.K is gs)) (hs : (assignEach (e :: es) X.env).map (·.2) = assign e X.env :: (assignEach es X.env).map (·.2) := by rfl) : PGs X (e :: es) (tGs X.K (js ++ is) (mgCons g gs)) :=
  (pgs_cons h1 h2 hs).imp fun _ _ _ _ => gcons_run
theorem gtup_run {n : Nat} (hl : ∀ ds env env', gs ds env = some env' → ds.length = n) {v : V} {σ : St} {H : Hp} {Q : St → Hp → Prop} (h : tG K js (mgTup gs) v σ H Q) : gTup K n (tGs K js gs) v σ H Q := by
  obtain ⟨B, env, Hk, d, env', R, hd, hm, k⟩ := h
  cases d with
  | tuple ds =>
    cases hd with
    | tup h1 h2 => exact ⟨_, _, rfl, same_tup R.ex h1, by rw [h2.len]; exact hl _ _ _ hm, B, env, Hk, ds, env', R, h2, hm, k⟩
  | _ => cases hm
theorem mgnil_len : ∀ ds env env', mgNil ds env = some env' → ds.length = 0 := fun ds env env' h => by
  cases ds with
  | nil => rfl
  | cons _ _ => cases h
theorem mgcons_len {n : Nat} (hl : ∀ ds env env', gs ds env = some env' → ds.length = n) : ∀ ds env env', mgCons g gs ds env = some env' → ds.length = n + 1 := fun ds env env' h => by
  cases ds with
  | nil => cases h
  | cons d ds =>
    obtain ⟨e1, g1, g2⟩ := Option.bind_eq_some_iff.mp h
    rw [List.length_cons, hl _ _ _ g2]
theorem vg_tup {es : List Expr} {kk n : Nat} (h : PGs X es (tGs X.K js gs)) (hl : ∀ ds env env', gs ds env = some env' → ds.length = n) (hc : X.calm = true := by rfl) (hn : (assignEach es X.env).length = n := by rfl) (hst : (assignEach es X.env).findIdx? (·.1) = none := by rfl) : VG X (.Tuple es kk pos) js (mgTup gs) :=
  (pg_tup hc h hn hst).imp fun _ _ _ _ => gtup_run hl
end
def IterOk (K : PySem.W.Frag) (Hk0 : Hp) (J : It) (ds : List PyData) : Prop := ∀ (Hk H : Hp), Same Hk0 Hk → Same Hk H → ∀ i, (∀ d, ds[i]? = some d → J.go i H ∧ ∀ x H', J.yld i H x H' → Out K Hk H (.dat d) x H') ∧ (ds.length ≤ i → J.stop i H)
abbrev MI := Sl → Option (List PyData × Sl)
def tI (K : PySem.W.Frag) (m : MI) : TI := fun σ H R => ∃ B env Hk ds env', Rel K B env σ Hk H ∧ m env = some (ds, env') ∧
  ∀ J Hk' H', Rel K B env' σ Hk' H' → KSame Hk Hk' → IterOk K Hk' J ds → R J H'
abbrev VI (X : Cx) (tg e : Expr) (m : MI) : Prop := PI X tg e (tI X.K m)
def forL (g : MG) (b : MS) : List PyData → Sl → Option (Fl × Sl)
  | [], e => some (.nx, e)
  | d :: ds, e => (g d e).bind fun e1 => (b e1).bind fun q => match q.1 with
    | .nx => forL g b ds q.2
    | .ct => forL g b ds q.2
    | .bk => some (.nx, q.2)
    | .rt r => some (.rt r, q.2)
    | .ex C fs => some (.ex C fs, q.2)
def mFor (mi : MI) (g : MG) (b : MS) : MS := fun env => (mi env).bind fun p => forL g b p.1 p.2
section
variable {X : Cx} {K : PySem.W.Frag} {js : List Nat} {g : MG} {b : MS} {mi : MI} {pos : Pos}
theorem drop_cons {α : Type} {l : List α} {i : Nat} {d : α} {r : List α} (h : l.drop i = d :: r) : l[i]? = some d ∧ l.drop (i + 1) = r ∧ i < l.length := by
  have h1 : l[i]? = some d := by
    rw [← List.head?_drop, h]
    rfl
  refine ⟨h1, ?_, (List.getElem?_eq_some_iff.mp h1).1⟩
  rw [← List.drop_drop, h]
  rfl
theorem for_run {W : WX} {D : Ends} {σ : St} {H : Hp} (h : tS K W (mFor mi g b) D σ H) : tFor (tI K mi) (tG K js g) (tS K W b) D σ H := by
  obtain ⟨B, env, Hk, f, env', R, hm, k⟩ := h
  obtain ⟨⟨ds, e1⟩, h1, hm⟩ := Option.bind_eq_some_iff.mp hm
  refine ⟨B, env, Hk, ds, e1, R, h1, fun J Hk1 H1 R1 s1 it => ?_⟩
  refine ⟨fun i m σ H => m = ds.length - i ∧ ∃ e, ∃ Hk2 : Kn, Rel K B e σ Hk2 H ∧ KSame Hk1 Hk2 ∧ forL g b (ds.drop i) e = some (f, env'), ⟨ds.length, by simp, e1, Hk1, R1, .refl _, hm⟩, ?_⟩
  rintro i m σ2 H2 ⟨rfl, e, Hk2, R2, s2, hf⟩
  obtain ⟨go, stop⟩ := it Hk2 H2 s2.s R2.ex i
  cases hd : ds.drop i with
  | nil =>
    rw [hd] at hf
    cases hf
    have hl : ds.length ≤ i := List.drop_eq_nil_iff.mp hd
    exact .inl ⟨stop hl, k σ2 Hk2 H2 R2 (s1.trans s2)⟩
  | cons d r =>
    rw [hd] at hf
    obtain ⟨hi, hr, hlt⟩ := drop_cons hd
    obtain ⟨gi, yi⟩ := go d hi
    obtain ⟨e2, g1, hf⟩ := Option.bind_eq_some_iff.mp hf
    obtain ⟨⟨f1, e3⟩, g2, hf⟩ := Option.bind_eq_some_iff.mp hf
    refine .inr ⟨gi, fun σ' H' => ∃ e, ∃ Hk2 : Kn, Rel K B e σ' Hk2 H' ∧ KSame Hk1 Hk2 ∧ forL g b (ds.drop (i + 1)) e = some (f, env'), fun σ' H' w => ⟨ds.length - (i + 1), by omega, rfl, w⟩, fun x H' y => ?_⟩
    obtain ⟨Hk3, R3, s3, o3⟩ := R2.out (yi x H' y)
    refine ⟨B, e, Hk3, d, e2, R3, o3, g1, fun σ3 Hk4 H4 R4 s4 _ _ => ?_⟩
    refine ⟨B, e2, Hk4, f1, e3, R4, g2, fun σ4 Hk5 H5 R5 s5 => ?_⟩
    have sm := ((s2.trans s3).trans s4).trans s5
    cases f1 with
    | nx =>
      refine ⟨e3, Hk5, R5, sm, ?_⟩
      rw [hr]
      exact hf
    | ct =>
      refine ⟨e3, Hk5, R5, sm, ?_⟩
      rw [hr]
      exact hf
    | bk =>
      cases hf
      exact k σ4 Hk5 H5 R5 (s1.trans sm)
    | rt r =>
      cases hf
      exact k σ4 Hk5 H5 R5 (s1.trans sm)
    | ex C fs =>
      cases hf
      exact k σ4 Hk5 H5 R5 (s1.trans sm)
theorem vs_for {tg iter : Expr} {body : List Stmt} (hp : PassesOwn (model X.prog X.w) X.A X.env X.xe) (hi : VI X tg iter mi) (hg : VG X tg js g) (hb : VSs X body b) (hc : X.calm = true := by rfl)
    (hs : ∀ x, foldedSetIterable iter X.env x = pure x := by intro _; rfl) : VS X (.For tg iter body [] pos) (mFor mi g b) := fun W t => (ps_for hp hc hi hg (hb W t) hs).imp fun _ _ _ => for_run
end
section
variable {X : Cx} {K : PySem.W.Frag} {t : MT} {b : MS} {pos : Pos}
end
end Cm
namespace Cm
open PySem L2
def wipeS (env : Sl) : List Nat → Sl
  | [] => env
  | v :: vs => (wipeS env vs).set v .no
def lcL (g : MG) (t : MT) (me : ME) (vs : List Nat) : List PyData → Sl → List PyData → Option (List PyData × Sl)
  | [], e, acc => some (acc, e)
  | d :: ds, e, acc => (g d e).bind fun e1 => (t e1).bind fun p => if p.1 = true then (mFrz me p.2).bind fun q => match q.1 with
    | .dat x => lcL g t me vs ds (wipeS q.2 vs) (acc ++ [x])
    | _ => none else lcL g t me vs ds (wipeS p.2 vs) acc
def mLc (mi : MI) (g : MG) (t : MT) (me : ME) (vs : List Nat) : ME := fun env => (mi env).bind fun p => if p.1.length ≤ 100000 then (lcL g t me vs p.1 (wipeS p.2 vs) []).map fun q => (.new (.lst q.1), q.2) else none
section
variable {X : Cx} {K : PySem.W.Frag} {js : List Nat} {g : MG} {t : MT} {me : ME} {mi : MI} {pos : Pos}
theorem Rel.wiped {B : Fb} {env : Sl} {σ : St} {Hk : Kn} {H : Hp} (R : Rel K B env σ Hk H) : ∀ vs : List Nat, Rel K B (wipeS env vs) (wipe σ vs) Hk H
  | [] => R
  | v :: vs => (Rel.wiped R vs).setNo
theorem wipeS_no {env : Sl} {i : Nat} {s : Slot} : ∀ {vs : List Nat}, i ∈ vs → (wipeS env vs)[i]? = some s → s = .no
  | v :: vs, h, e => by
    rcases set_get (show ((wipeS env vs).set v .no)[i]? = some s from e) with ⟨_, z⟩ | ⟨ne, z⟩
    · exact z
    · rcases List.mem_cons.mp h with q | q
      · exact absurd q ne
      · exact wipeS_no q z
theorem wipe_out {σ : St} {i : Nat} : ∀ {vs : List Nat}, i ∉ vs → (wipe σ vs)[i]? = σ[i]?
  | [], _ => rfl
  | v :: vs, h => by
    show ((wipe σ vs).set v none)[i]? = _
    rw [List.getElem?_set_ne (fun e => h (by simp [e]))]
    exact wipe_out (fun z => h (List.mem_cons_of_mem _ z))
theorem wipe_in {σ : St} {i : Nat} : ∀ {vs : List Nat}, i ∈ vs → i < σ.length → (wipe σ vs)[i]? = some none
  | v :: vs, h, hl => by
    show ((wipe σ vs).set v none)[i]? = _
    by_cases e : v = i
    · subst e
      rw [List.getElem?_set_self (by rw [wipe_length]; exact hl)]
    · rw [List.getElem?_set_ne e]
      rcases List.mem_cons.mp h with q | q
      · exact absurd q.symm e
      · exact wipe_in q hl
theorem wipe_ext {σ σ' : St} {vs : List Nat} (h : ∀ i, i ∉ vs → σ'[i]? = σ[i]?) (hl : σ'.length = σ.length) : wipe σ' vs = wipe σ vs := by
  refine List.ext_getElem? fun i => ?_
  by_cases hi : i ∈ vs
  · by_cases hlt : i < σ.length
    · rw [wipe_in hi hlt, wipe_in hi (by omega)]
    · rw [List.getElem?_eq_none (by rw [wipe_length]; omega), List.getElem?_eq_none (by rw [wipe_length]; omega)]
  · rw [wipe_out hi, wipe_out hi, h i hi]
theorem Rel.unwiped {B : Fb} {env : Sl} {σ : St} {Hk : Kn} {H : Hp} {vs : List Nat} (R : Rel K B (wipeS env vs) (wipe σ vs) Hk H) : Rel K B (wipeS env vs) σ Hk H where
  ex := R.ex
  kn := R.kn
  fr := R.fr
  kp := R.kp
  oin := R.oin
  o0 := R.o0
  len := by rw [R.len, wipe_length]
  slot := fun i s hi => by
    by_cases h : i ∈ vs
    · rw [wipeS_no h hi]
      obtain ⟨o, h1, _⟩ := R.slot i s hi
      have hl : i < σ.length := by
        have := (List.getElem?_eq_some_iff.mp h1).1
        rw [wipe_length] at this
        exact this
      exact ⟨σ[i], List.getElem?_eq_getElem hl, trivial⟩
    · obtain ⟨o, h1, h2⟩ := R.slot i s hi
      rw [wipe_out h] at h1
      exact ⟨o, h1, h2⟩
  sok := R.sok
  pin := R.pin
  psep := fun i s a n hi ms e1 => by
    have n1 : i ∉ vs := fun z => by
      rw [wipeS_no z hi] at ms
      exact ms
    exact R.psep i s a n hi ms (by rw [wipe_out n1]; exact e1)
  sep := fun i j s u a hi hj ms mu e1 e2 => by
    have n1 : i ∉ vs := fun z => by
      rw [wipeS_no z hi] at ms
      exact ms
    have n2 : j ∉ vs := fun z => by
      rw [wipeS_no z hj] at mu
      exact mu
    exact R.sep i j s u a hi hj ms mu (by rw [wipe_out n1]; exact e1) (by rw [wipe_out n2]; exact e2)
theorem lcL_wiped {vs : List Nat} : ∀ {ds : List PyData} {e : Sl} {acc : List PyData} {out : List PyData} {env' : Sl}, lcL g t me vs ds (wipeS e vs) acc = some (out, env') → ∃ e', env' = wipeS e' vs
  | [], e, acc, out, env', h => by
    cases h
    exact ⟨e, rfl⟩
  | d :: ds, e, acc, out, env', h => by
    obtain ⟨e1, g1, h⟩ := Option.bind_eq_some_iff.mp h
    obtain ⟨⟨b, e2⟩, g2, h⟩ := Option.bind_eq_some_iff.mp h
    cases b with
    | false => exact lcL_wiped (show lcL g t me vs ds (wipeS e2 vs) acc = _ from h)
    | true =>
      obtain ⟨⟨r, e3⟩, g3, h⟩ := Option.bind_eq_some_iff.mp (show ((mFrz me e2).bind _) = _ from h)
      cases r with
      | dat x => exact lcL_wiped (show lcL g t me vs ds (wipeS e3 vs) _ = _ from h)
      | new c => cases h
      | slt i => cases h
      | pv p => cases h
theorem lc_run {vs : List Nat} (hj : ∀ j, j ∈ js → j ∈ vs) {σ : St} {H : Hp} {Q : VK} (h : tE K (mLc mi g t me vs) σ H Q) : tLc (tI K mi) (tG K js g) (tT K t) (tE K (mFrz me)) vs σ H Q := by
  obtain ⟨B, env, Hk, res, env', R, hm, k⟩ := h
  obtain ⟨⟨ds, e1⟩, h1, hm⟩ := Option.bind_eq_some_iff.mp hm
  by_cases hz : ds.length ≤ 100000
  · have hm : ((lcL g t me vs ds (wipeS e1 vs) []).map fun q => (Res.new (Cell.lst q.1), q.2)) = some (res, env') := by
      have hm : (if ds.length ≤ 100000 then _ else _) = _ := hm
      rw [if_pos hz] at hm
      exact hm
    obtain ⟨⟨out, e2⟩, h2, hm⟩ := Option.map_eq_some_iff.mp hm
    cases hm
    refine ⟨B, env, Hk, ds, e1, R, h1, fun J Hk1 H1 R1 s1 it p hp => ?_⟩
    obtain ⟨ew, rfl⟩ := lcL_wiped h2
    refine ⟨fun i m H => m = ds.length - i ∧ ∃ e, ∃ Hk2 : Kn, ∃ xs acc, Rel K B (wipeS e vs) (wipe σ vs) Hk2 H ∧ KSame Hk1 Hk2 ∧ H p = some (.lst xs) ∧ Hk2 p = none ∧ (∀ (n : Nat), Hk2.P n ≠ some p) ∧ (∀ (j : Nat) s, (wipeS e vs)[j]? = some s → s.mut → (wipe σ vs)[j]? ≠ some (some (V.ref p))) ∧ DvAll K Hk2 xs acc ∧ acc.length ≤ i ∧ lcL g t me vs (ds.drop i) (wipeS e vs) acc = some (out, wipeS ew vs),
      ⟨ds.length, by simp, e1, Hk1, [], [], (R1.wiped vs).laid hp, .refl _, upd_same, R1.kfree hp, R1.pfree hp, fun j s a b => (R1.wiped vs).mutNe hp a b, .nil, Nat.zero_le _, h2⟩, ?_⟩
    have h0 : B.H0 p = none := R1.fresh0 hp
    rintro i m H2 ⟨rfl, e, Hk2, xs, acc, R2, s2, hpx, hkp, hPp, hnm, hda, hal, hf⟩
    obtain ⟨go, stop⟩ := it Hk2 H2 s2 R2.ex i
    cases hd : ds.drop i with
    | nil =>
      rw [hd] at hf
      have hf : some (acc, wipeS e vs) = some (out, wipeS ew vs) := hf
      obtain ⟨rfl, he⟩ : acc = out ∧ wipeS e vs = wipeS ew vs := by
        have := Option.some.inj hf
        exact ⟨congrArg Prod.fst this, congrArg Prod.snd this⟩
      have hl : ds.length ≤ i := List.drop_eq_nil_iff.mp hd
      refine .inl ⟨stop hl, k _ Hk2 H2 (he ▸ R2.unwiped) (s1.trans s2) ⟨p, rfl, hkp, h0, ⟨xs, hpx, hda⟩, hPp, ?_⟩⟩
      rw [← he]
      intro j s hjs hms z
      have nj : j ∉ vs := fun z => by
        rw [wipeS_no z hjs] at hms
        exact hms
      exact hnm j s hjs hms (by rw [wipe_out nj]; exact z)
    | cons d r =>
      rw [hd] at hf
      obtain ⟨hi, hr, hlt⟩ := drop_cons hd
      obtain ⟨gi, yi⟩ := go d hi
      obtain ⟨e2, g1, hf⟩ := Option.bind_eq_some_iff.mp hf
      obtain ⟨⟨b, e3⟩, g2, hf⟩ := Option.bind_eq_some_iff.mp hf
      have G := R2.guard hpx hkp h0 hPp hnm
      refine .inr ⟨gi, fun H' => ∃ e, ∃ Hk2 : Kn, ∃ xs acc, Rel K B (wipeS e vs) (wipe σ vs) Hk2 H' ∧ KSame Hk1 Hk2 ∧ H' p = some (.lst xs) ∧ Hk2 p = none ∧ (∀ (n : Nat), Hk2.P n ≠ some p) ∧ (∀ (j : Nat) s, (wipeS e vs)[j]? = some s → s.mut → (wipe σ vs)[j]? ≠ some (some (V.ref p))) ∧ DvAll K Hk2 xs acc ∧ acc.length ≤ i + 1 ∧ lcL g t me vs (ds.drop (i + 1)) (wipeS e vs) acc = some (out, wipeS ew vs),
        fun H' w => ⟨ds.length - (i + 1), by omega, rfl, w⟩, fun x H' y => ?_⟩
      obtain ⟨Hk3, G3, s3, o3⟩ := G.out (yi x H' y)
      refine ⟨_, _, Hk3, d, e2, G3, o3, g1, fun σ4 Hk4 H4 G4 s4 d4 l4 => ⟨?_, ?_⟩⟩
      · rw [wipe_ext (σ := wipe σ vs) (fun i hi => d4 i fun z => hi (hj i z)) l4]
        exact wipe_ext (fun i hi => wipe_out hi) (wipe_length _ _)
      have wq : wipe σ4 vs = wipe σ vs := by
        rw [wipe_ext (σ := wipe σ vs) (fun i hi => d4 i fun z => hi (hj i z)) l4]
        exact wipe_ext (fun i hi => wipe_out hi) (wipe_length _ _)
      have s3 := s3.trans s4
      refine ⟨_, e2, Hk4, b, e3, G4, g2, fun Hk5 H5 G5 s5 => ?_⟩
      have fin : ∀ {e : Sl} {Hk6 : Kn} {H6 : Hp}, Rel K (B.guard p (.lst xs)) e σ4 Hk6 H6 → Rel K B (wipeS e vs) (wipe σ vs) Hk6 H6 ∧ H6 p = some (.lst xs) ∧ Hk6 p = none ∧ (∀ (n : Nat), Hk6.P n ≠ some p) ∧ ∀ (j : Nat) s, (wipeS e vs)[j]? = some s → s.mut → (wipe σ vs)[j]? ≠ some (some (V.ref p)) := fun {e Hk6 H6} G6 => by
        have Gw := G6.wiped vs
        rw [wq] at Gw
        exact Gw.unguard h0 (R1.kn.free (R1.kfree hp)) (R1.nO h0)
      cases b with
      | false =>
        have hf : lcL g t me vs r (wipeS e3 vs) acc = some (out, wipeS ew vs) := hf
        obtain ⟨F1, F2, F3, F5, F4⟩ := fin G5
        show ∃ e Hk2 xs acc, _
        exact ⟨e3, Hk5, xs, acc, F1, (s2.trans s3).trans s5, F2, F3, F5, F4, dvAll_mono (s3.trans s5) _ _ hda, by omega, by rw [hr]; exact hf⟩
      | true =>
        have hf : ((mFrz me e3).bind _) = some (out, wipeS ew vs) := hf
        obtain ⟨⟨rx, e4⟩, g3, hf⟩ := Option.bind_eq_some_iff.mp hf
        show tE K (mFrz me) σ4 H5 _
        refine ⟨_, e3, Hk5, rx, e4, G5, g3, fun y6 Hk6 H6 G6 s6 o6 => ?_⟩
        obtain ⟨F1, F2, F3, F5, F4⟩ := fin G6
        cases rx with
        | new c => cases hf
        | slt i => cases hf
        | pv p => cases hf
        | dat dx =>
          have hf : lcL g t me vs r (wipeS e4 vs) (acc ++ [dx]) = some (out, wipeS ew vs) := hf
          have sm := (s3.trans s5).trans s6
          refine ⟨xs, F2, ?_, e4, Hk6, xs ++ [y6], acc ++ [dx], F1.other F3 h0 F5 (fun x z => by rw [F2] at z; cases z) F4, s2.trans sm, upd_same, F3, F5, F4, DvAll.append (dvAll_mono sm _ _ hda) (.cons o6 .nil), ?_, ?_⟩
          · rw [hda.len]
            exact Nat.lt_of_lt_of_le (show acc.length < 200000 by omega) (by decide)
          · rw [List.length_append]
            show acc.length + 1 ≤ i + 1
            omega
          · rw [hr]
            exact hf
  · have hm : (if ds.length ≤ 100000 then _ else _) = _ := hm
    rw [if_neg hz] at hm
    cases hm
def mYes : MT := fun env => some (true, env)
abbrev VTs (X : Cx) (ifs : List Expr) (t : MT) : Prop := PTs X ifs (tT X.K t)
theorem _root_.L2.PTs.imp {X : Cx} {e : List Expr} {t t' : TT} (h : PTs X e t) (k : ∀ σ H Q, t' σ H Q → t σ H Q) : PTs X e t' := ⟨fun pins s σ H Q I q => h.run pins s σ H Q I (k σ H Q q)⟩
theorem vts_nil : VTs X [] mYes := pts_nil.imp fun _ _ _ h => by
  obtain ⟨B, env, Hk, b, env', R, hm, k⟩ := h
  cases hm
  exact k Hk _ R (.refl _)
theorem ve_lc {elt tg iter : Expr} {ifs : List Expr} {scope : Scope} {own : List (Str × Nat)} (hN : X.N.Nodup) (hi : VI X tg iter mi) (ok : BlkOk X.N X.env.scope scope own)
    (hg : ∀ (s : Shared) (H : Hp) (C : Addr) (cl : List (Str × Addr)) (fp : List Addr), VG (X.blk s H scope (compEnvC scope cl C X.env) fp) tg js g) (ht : ∀ (s : Shared) (H : Hp) (C : Addr) (cl : List (Str × Addr)) (fp : List Addr), VTs (X.blk s H scope (compEnvC scope cl C X.env) fp) ifs t)
    (he : ∀ (s : Shared) (H : Hp) (C : Addr) (cl : List (Str × Addr)) (fp : List Addr), VE (X.blk s H scope (compEnvC scope cl C X.env) fp) elt me) (hj : ∀ j, j ∈ js → j ∈ own.map (·.2)) (hc : X.calm = true := by rfl) (hs : ∀ x, foldedSetIterable iter X.env x = pure x := by intro _; rfl) :
    VE X (.ListComp elt [⟨tg, iter, ifs, 0⟩] scope pos) (mLc mi g t me (own.map (·.2))) :=
  (pe_lc hc hN hi ok hg ht (fun s H C cl fp => ve_frz (he s H C cl fp)) hs).imp fun _ _ _ => lc_run hj
end
end Cm
namespace Cm
open PySem PySem.Spec PyProof.Rows L2
abbrev FM := Sl → Option (Res × Sl)
def ArgOk (K : PySem.W.Frag) (Hk H : Hp) (s : Slot) (v : V) : Prop := match s with
  | .val d => Dv K Hk v d
  | .io _ c => ∃ a, v = .ref a ∧ Hk a = none ∧ CellAt K Hk H a c
  | .scr ns => ∃ a, v = .ref a ∧ SqL K Hk a (ns.map V.int)
  | _ => False
structure ArgsOk (K : PySem.W.Frag) (Hk H : Hp) (ins : Sl) (vs : List V) : Prop where
  len : ins.length = vs.length
  arg : ∀ (i : Nat) s v, ins[i]? = some s → vs[i]? = some v → ArgOk K Hk H s v
  ix : ∀ (i k : Nat) c, ins[i]? = some (.io k c) → k = i
  sep : ∀ (i j k l : Nat) c c' a, ins[i]? = some (.io k c) → ins[j]? = some (.io l c') → vs[i]? = some (V.ref a) → vs[j]? = some (V.ref a) → i = j
def ioA (ins : Sl) (vs : List V) (k : Nat) : Option Addr := match ins[k]?, vs[k]? with
  | some (.io _ _), some (.ref a) => some a
  | _, _ => none
def FRes (K : PySem.W.Frag) (H Hk' H' : Hp) (r : Res) (v : V) : Prop := match r with
  | .dat d => Dv K Hk' v d
  | .new c => ∃ a, v = .ref a ∧ Hk' a = none ∧ H a = none ∧ CellAt K Hk' H' a c
  | _ => False
structure PostF (K : PySem.W.Frag) (Hk H : Hp) (ins : Sl) (vs : List V) (outs : Sl) (r : Res) (v : V) (Hk' H' : Hp) : Prop where
  kn : Same Hk Hk'
  ex : Same Hk' H'
  fr : ∀ a, Hk' a ≠ none → Hk a = none → H a = none
  kp : ∀ a o, H a = some o → (∀ k, ioA ins vs k ≠ some a) → H' a = some o
  io : ∀ k a, ioA ins vs k = some a → ∃ c', outs[k]? = some (.io k c') ∧ Hk' a = none ∧ CellAt K Hk' H' a c'
  res : FRes K H Hk' H' r v
def spF (K : PySem.W.Frag) (fm : FM) : Sp := fun vs H Q _ => ∃ Hk ins r outs, Same Hk H ∧ ArgsOk K Hk H ins vs ∧ fm ins = some (r, outs) ∧ ∀ v Hk' H', PostF K Hk H ins vs outs r v Hk' H' → Q v H'
def ioKept : Sl → Sl → Bool
  | .io k _ :: s, .io l _ :: t => k == l && ioKept s t
  | .io _ _ :: _, _ => false
  | _ :: s, _ :: t => ioKept s t
  | _ :: s, [] => ioKept s []
  | [], _ => true
def finR : Fl × Sl → Option Res
  | (.nx, _) => some (.dat .none)
  | (.rt (.dat d), _) => some (.dat d)
  | (.rt (.new c), _) => some (.new c)
  | (.rt (.pv p), e) => (p.deep (sto e) 9).map .dat
  | (.rt (.slt i), e) => match e[i]? with
    | some (.val d) => some (.dat d)
    | some (.own c) => some (.new c)
    | _ => none
  | _ => none
def fmOf (np n : Nat) (mb : MS) : FM := fun ins => if ins.length = np then (mb (ins ++ List.replicate (n - np) .no)).bind fun p => (finR p).bind fun r => if ioKept ins p.2 = true then some (r, p.2.take np) else none else none
theorem ioKept_get : ∀ {s t : Sl} {i k : Nat} {c : Cell}, ioKept s t = true → s[i]? = some (.io k c) → ∃ c', t[i]? = some (.io k c')
  | .io k _ :: s, .io l c' :: t, 0, k', c, h, e => by
    simp at e
    simp only [ioKept, Bool.and_eq_true, beq_iff_eq] at h
    exact ⟨c', by rw [← e.1, h.1]; rfl⟩
  | .io k _ :: s, .io l c' :: t, i + 1, k', c, h, e => by
    simp only [ioKept, Bool.and_eq_true] at h
    obtain ⟨z, q⟩ := ioKept_get (i := i) h.2 (by simpa using e)
    exact ⟨z, by simpa using q⟩
  | .io k _ :: s, .no :: t, _, _, _, h, e => by cases h
  | .io k _ :: s, .val _ :: t, _, _, _, h, e => by cases h
  | .io k _ :: s, .own _ :: t, _, _, _, h, e => by cases h
  | .io k _ :: s, .scr _ :: t, _, _, _, h, e => by cases h
  | .io k _ :: s, .pin _ :: t, _, _, _, h, e => by cases h
  | .io k _ :: s, .pv _ :: t, _, _, _, h, e => by cases h
  | .io k _ :: s, .sto _ :: t, _, _, _, h, e => by cases h
  | .io k _ :: s, [], _, _, _, h, e => by cases h
  | .no :: s, x :: t, 0, _, _, h, e => by simp at e
  | .val _ :: s, x :: t, 0, _, _, h, e => by simp at e
  | .own _ :: s, x :: t, 0, _, _, h, e => by simp at e
  | .scr _ :: s, x :: t, 0, _, _, h, e => by simp at e
  | .pin _ :: s, x :: t, 0, _, _, h, e => by simp at e
  | .sto _ :: s, x :: t, 0, _, _, h, e => by simp at e
  | .pv _ :: s, x :: t, 0, _, _, h, e => by simp at e
  | .no :: s, x :: t, i + 1, _, _, h, e => by
    obtain ⟨z, q⟩ := ioKept_get (s := s) (t := t) (i := i) h (by simpa using e)
    exact ⟨z, by simpa using q⟩
  | .val _ :: s, x :: t, i + 1, _, _, h, e => by
    obtain ⟨z, q⟩ := ioKept_get (s := s) (t := t) (i := i) h (by simpa using e)
    exact ⟨z, by simpa using q⟩
  | .own _ :: s, x :: t, i + 1, _, _, h, e => by
    obtain ⟨z, q⟩ := ioKept_get (s := s) (t := t) (i := i) h (by simpa using e)
    exact ⟨z, by simpa using q⟩
  | .scr _ :: s, x :: t, i + 1, _, _, h, e => by
    obtain ⟨z, q⟩ := ioKept_get (s := s) (t := t) (i := i) h (by simpa using e)
    exact ⟨z, by simpa using q⟩
  | .pin _ :: s, x :: t, i + 1, _, _, h, e => by
    obtain ⟨z, q⟩ := ioKept_get (s := s) (t := t) (i := i) h (by simpa using e)
    exact ⟨z, by simpa using q⟩
  | .sto _ :: s, x :: t, i + 1, _, _, h, e => by
    obtain ⟨z, q⟩ := ioKept_get (s := s) (t := t) (i := i) h (by simpa using e)
    exact ⟨z, by simpa using q⟩
  | .pv _ :: s, x :: t, i + 1, _, _, h, e => by
    obtain ⟨z, q⟩ := ioKept_get (s := s) (t := t) (i := i) h (by simpa using e)
    exact ⟨z, by simpa using q⟩
  | .no :: s, [], 0, _, _, h, e => by simp at e
  | .val _ :: s, [], 0, _, _, h, e => by simp at e
  | .own _ :: s, [], 0, _, _, h, e => by simp at e
  | .scr _ :: s, [], 0, _, _, h, e => by simp at e
  | .pin _ :: s, [], 0, _, _, h, e => by simp at e
  | .sto _ :: s, [], 0, _, _, h, e => by simp at e
  | .pv _ :: s, [], 0, _, _, h, e => by simp at e
  | .no :: s, [], i + 1, _, _, h, e => by
    obtain ⟨z, q⟩ := ioKept_get (s := s) (t := []) (i := i) h (by simpa using e)
    simp at q
  | .val _ :: s, [], i + 1, _, _, h, e => by
    obtain ⟨z, q⟩ := ioKept_get (s := s) (t := []) (i := i) h (by simpa using e)
    simp at q
  | .own _ :: s, [], i + 1, _, _, h, e => by
    obtain ⟨z, q⟩ := ioKept_get (s := s) (t := []) (i := i) h (by simpa using e)
    simp at q
  | .scr _ :: s, [], i + 1, _, _, h, e => by
    obtain ⟨z, q⟩ := ioKept_get (s := s) (t := []) (i := i) h (by simpa using e)
    simp at q
  | .pin _ :: s, [], i + 1, _, _, h, e => by
    obtain ⟨z, q⟩ := ioKept_get (s := s) (t := []) (i := i) h (by simpa using e)
    simp at q
  | .sto _ :: s, [], i + 1, _, _, h, e => by
    obtain ⟨z, q⟩ := ioKept_get (s := s) (t := []) (i := i) h (by simpa using e)
    simp at q
  | .pv _ :: s, [], i + 1, _, _, h, e => by
    obtain ⟨z, q⟩ := ioKept_get (s := s) (t := []) (i := i) h (by simpa using e)
    simp at q
  | [], _, i, _, _, _, e => by simp at e
section
variable {P : Program} {w : World} {K : PySem.W.Frag} {mg : Str → Option Value} {base : Heap}
theorem ioA_of {ins : Sl} {vs : List V} {k : Nat} {a : Addr} (h : ioA ins vs k = some a) : ∃ l c, ins[k]? = some (.io l c) ∧ vs[k]? = some (.ref a) := by
  unfold ioA at h
  split at h
  · rename_i l c b e1 e2
    cases h
    exact ⟨l, c, e1, e2⟩
  · cases h
theorem ioA_is {ins : Sl} {vs : List V} {k l : Nat} {c : Cell} {a : Addr} (h : ins[k]? = some (.io l c)) (h' : vs[k]? = some (.ref a)) : ioA ins vs k = some a := by
  unfold ioA
  rw [h, h']
theorem start_get {N : List Str} {vs : List V} {i : Nat} {v : V} (h : vs[i]? = some v) : (L2.start N vs)[i]? = some (some v) := by
  unfold L2.start
  rw [List.getElem?_append_left (by rw [List.length_map]; exact (List.getElem?_eq_some_iff.mp h).1), List.getElem?_map, h]
  rfl
theorem start_len {N : List Str} {vs : List V} (h : vs.length ≤ N.length) : (L2.start N vs).length = N.length := by
  unfold L2.start
  rw [List.length_append, List.length_map, List.length_replicate]
  omega
theorem ArgsOk.rel {Hk H : Hp} {ins : Sl} {vs : List V} {N : List Str} (A : ArgsOk K Hk H ins vs) (s : Same Hk H) (hl : vs.length ≤ N.length) :
    Rel K ⟨⟨Hk, fun _ => none⟩, H, ioA ins vs, fun _ => none, fun _ => False⟩ (ins ++ List.replicate (N.length - ins.length) .no) (L2.start N vs) ⟨Hk, fun _ => none⟩ H := by
  have io : ∀ a, (⟨⟨Hk, fun _ => none⟩, H, ioA ins vs, fun _ => none, fun _ => False⟩ : Fb).io a → H a ≠ none ∧ Hk a = none := fun a h => by
    obtain ⟨k, h⟩ := h.resolve_right (fun z => z)
    obtain ⟨l, c, e1, e2⟩ := ioA_of h
    obtain ⟨b, e3, q1, q2⟩ := A.arg k _ _ e1 e2
    cases e3
    obtain ⟨o, ho⟩ := q2.there
    exact ⟨ne_none ho, q1⟩
  have cut : ∀ (i : Nat) s, (ins ++ List.replicate (N.length - ins.length) Slot.no)[i]? = some s → (ins[i]? = some s ∧ i < vs.length) ∨ s = .no := fun i s h => by
    by_cases hi : i < ins.length
    · rw [List.getElem?_append_left hi] at h
      exact .inl ⟨h, by rw [← A.len]; exact hi⟩
    · rw [List.getElem?_append_right (by omega), List.getElem?_replicate] at h
      split at h
      · cases h
        exact .inr rfl
      · cases h
  refine ⟨s, .refl _, fun a h1 h2 => absurd h2 h1, fun a o h _ => h, io, fun a h => (io a h).1, ?_, fun i s h => ?_, fun i j s t a h1 h2 m1 m2 e1 e2 => ?_, fun M h => ?_, (fun n a h => by cases h), (fun _ _ _ _ _ _ _ h => by cases h)⟩
  · rw [List.length_append, List.length_replicate, start_len hl, A.len]
    omega
  · rcases cut i s h with ⟨q, hi⟩ | rfl
    · have hv : vs[i]? = some vs[i] := List.getElem?_eq_getElem hi
      refine ⟨some vs[i], start_get hv, ?_⟩
      have z := A.arg i s _ q hv
      cases s with
      | no => trivial
      | val d => exact ⟨_, rfl, z⟩
      | own c => cases z
      | scr ns =>
        obtain ⟨a, e1, q1⟩ := z
        exact ⟨a, by rw [e1], q1⟩
      | pin a => cases z
      | pv p => cases z
      | sto M => cases z
      | io k c =>
        obtain ⟨a, e1, q1, q2⟩ := z
        refine ⟨a, by rw [e1], q1, ?_, q2⟩
        have := A.ix i k c q
        subst this
        exact ioA_is q (by rw [hv, e1])
    · have hlt : i < (L2.start N vs).length := by
        have := (List.getElem?_eq_some_iff.mp h).1
        rw [List.length_append, List.length_replicate, A.len] at this
        rw [start_len hl]
        omega
      exact ⟨_, List.getElem?_eq_getElem hlt, trivial⟩
  · rcases cut i s h1 with ⟨q1, hi⟩ | rfl
    · rcases cut j t h2 with ⟨q2, hj⟩ | rfl
      · have v1 : vs[i]? = some vs[i] := List.getElem?_eq_getElem hi
        have v2 : vs[j]? = some vs[j] := List.getElem?_eq_getElem hj
        have g1 := start_get (N := N) v1
        have g2 := start_get (N := N) v2
        rw [e1] at g1
        rw [e2] at g2
        have w1 : vs[i]? = some (.ref a) := by rw [v1]; exact congrArg some (Option.some.inj (Option.some.inj g1)).symm
        have w2 : vs[j]? = some (.ref a) := by rw [v2]; exact congrArg some (Option.some.inj (Option.some.inj g2)).symm
        cases s with
        | no => cases m1
        | val d => cases m1
        | scr d => cases m1
        | pin a => cases m1
        | pv p => cases m1
        | sto M => cases m1
        | own c => exact False.elim (A.arg i _ _ q1 w1)
        | io k c =>
          cases t with
          | no => cases m2
          | val d => cases m2
          | scr d => cases m2
          | pin a => cases m2
          | pv p => cases m2
          | sto M => cases m2
          | own c => exact False.elim (A.arg j _ _ q2 w2)
          | io l c' => exact A.sep i j k l c c' a q1 q2 w1 w2
      · cases m2
    · cases m1
  · rcases cut _ _ h with ⟨q, hi⟩ | z
    · exact False.elim (A.arg _ _ _ q (List.getElem?_eq_getElem hi))
    · cases z
theorem spF_len' {np : Nat} {fm : FM} (hnp : ∀ ins r, fm ins = some r → ins.length = np) (vs : List V) (H : Hp) (Q : VK) (E : XK) (h : spF K fm vs H Q E) : vs.length = np := by
  obtain ⟨Hk, ins, r, outs, _, hA, hf, _⟩ := h
  rw [← hA.len, hnp _ _ hf]
theorem fmOf_len {np n : Nat} {mb : MS} (ins : Sl) (r : Res × Sl) (h : fmOf np n mb ins = some r) : ins.length = np := by
  unfold fmOf at h
  by_cases hl : ins.length = np
  · exact hl
  · rw [if_neg hl] at h
    cases h
theorem spF_len {N ps : List Str} {mb : MS} (vs : List V) (H : Hp) (Q : VK) (E : XK) (h : spF K (fmOf ps.length N.length mb) vs H Q E) : vs.length = ps.length := spF_len' (fun _ _ => fmOf_len _ _) vs H Q E h
def fmSt (np n : Nat) (mb : MS) : FM := fun ins => if ins.length = np then (mb ((ins ++ List.replicate (n - np) Slot.no).set (n - 1) (Slot.sto []))).bind fun p => (finR p).bind fun r => if ioKept ins p.2 = true then some (r, p.2.take np) else none else none
theorem fmSt_len {np n : Nat} {mb : MS} (ins : Sl) (r : Res × Sl) (h : fmSt np n mb ins = some r) : ins.length = np := by
  unfold fmSt at h
  by_cases hl : ins.length = np
  · exact hl
  · rw [if_neg hl] at h
    cases h
theorem Rel.stoNew {B : Fb} {env : Sl} {σ : L2.St} {Hk : Kn} {H : Hp} (R : Cm.Rel K B env σ Hk H) (hP : ∀ n, Hk.P n = none) (i : Nat) : Cm.Rel K B (env.set i (.sto [])) σ Hk H where
  ex := R.ex
  kn := R.kn
  fr := R.fr
  kp := R.kp
  oin := R.oin
  o0 := R.o0
  len := by rw [List.length_set]; exact R.len
  slot := fun j t hj => by
    rcases set_get hj with ⟨rfl, rfl⟩ | ⟨hne, hj'⟩
    · have hl : j < σ.length := by
        have := (List.getElem?_eq_some_iff.mp hj).1
        rw [List.length_set] at this
        rw [← R.len]
        exact this
      exact ⟨_, List.getElem?_eq_getElem hl, trivial⟩
    · exact R.slot j t hj'
  sep := fun j k s t b hj hk ms mt g1 g2 => by
    rcases set_get hj with ⟨rfl, rfl⟩ | ⟨_, hj⟩
    · cases ms
    · rcases set_get hk with ⟨rfl, rfl⟩ | ⟨_, hk⟩
      · cases mt
      · exact R.sep j k s t b hj hk ms mt g1 g2
  sok := fun M h => by
    by_cases hM : M = []
    · subst hM
      exact ⟨fun n c z => (by simp at z), fun n m a z => (by rw [hP] at z; cases z), fun n _ => hP n⟩
    · unfold HasSto at h
      rcases set_get h with ⟨_, z⟩ | ⟨_, z⟩
      · exact absurd (Slot.sto.inj z) hM
      · rw [List.length_set] at z
        exact R.sok M z
  pin := R.pin
  psep := fun j s a n hj ms g => by
    rw [hP]
    exact fun z => nomatch z
open Classical in
noncomputable def Kn.all (Hk : Kn) (H : Hp) : Hp := fun a => if ∃ n, Hk.P n = some a then H a else Hk a
theorem Kn.all_same {B : Fb} {env : Sl} {σ : L2.St} {Hk : Kn} {H : Hp} (R : Cm.Rel K B env σ Hk H) : Same Hk (Hk.all H) := fun a o e => by
  unfold Kn.all
  split
  · exact R.ex _ _ e
  · exact e
theorem Kn.all_ex {B : Fb} {env : Sl} {σ : L2.St} {Hk : Kn} {H : Hp} (R : Cm.Rel K B env σ Hk H) : Same (Hk.all H) H := fun a o e => by
  unfold Kn.all at e
  split at e
  · exact e
  · exact R.ex _ _ e
theorem Kn.all_at {Hk : Kn} {H : Hp} {n : Nat} {a : Addr} (h : Hk.P n = some a) : Hk.all H a = H a := if_pos ⟨n, h⟩
theorem Kn.all_out {Hk : Kn} {H : Hp} {a : Addr} (h : ∀ n, Hk.P n ≠ some a) : Hk.all H a = Hk a := if_neg fun ⟨n, e⟩ => h n e
theorem fn_bodyG {qual : Str} {st : Stmt} {f : Addr} {N ps : List Str} {mb : MS} (S : FnScope N ps (defScope st)) {cdv : Value} {A : Around} {outer : List Env} {s : Shared} {H : Hp} {E : XK} {vs : List V} {Q : VK}
    (hb : VSs ((cxOf CX0 P w K mg base N qual (defScope st) f cdv A outer s H E).nox) (defBody st) mb) {Hk : Hp} {ins env0 : Sl} {r : Res} {outs : Sl} (sm : Same Hk H) (hA : ArgsOk K Hk H ins vs) (hl : ins.length = ps.length)
    (h0 : ∀ {B : Fb} {σ : L2.St} {Hk' : Kn}, (∀ n, Hk'.P n = none) → Cm.Rel K B (ins ++ List.replicate (N.length - ps.length) Slot.no) σ Hk' H → Cm.Rel K B env0 σ Hk' H)
    (hf : ((mb env0).bind fun p => (finR p).bind fun r => if ioKept ins p.2 = true then some (r, p.2.take ps.length) else none) = some (r, outs)) (q : ∀ v Hk' H', PostF K Hk H ins vs outs r v Hk' H' → Q v H') :
    ∃ t, PSs (cxOf CX0 P w K mg base N qual (defScope st) f cdv A outer s H E) (defBody st) t ∧ t { nx := fun _ H' => Q .non H', rt := Q } (L2.start N vs) H := by
  have hpl : ps.length ≤ N.length := by
    have := congrArg List.length S.pre
    rw [List.length_take] at this
    omega
  obtain ⟨⟨fl, env'⟩, h1, hf⟩ := Option.bind_eq_some_iff.mp hf
  obtain ⟨r', h2, hf⟩ := Option.bind_eq_some_iff.mp hf
  by_cases hk : ioKept ins env' = true
  · have hf : (if ioKept ins env' = true then some (r', env'.take ps.length) else none) = some (r, outs) := hf
    rw [if_pos hk] at hf
    cases hf
    refine ⟨tS K (fun _ _ _ _ => False) mb, PSs.nox (hb _ fun u s' h => by obtain ⟨_, _, _, _, _, _, _, _, _, _, _, _, _, _, _, _, w⟩ := h; exact w.elim), ?_⟩
    have R := hA.rel (N := N) sm (by rw [← hA.len, hl]; exact hpl)
    rw [hl] at R
    refine ⟨_, _, _, fl, env', h0 (fun _ => rfl) R, h1, fun σ' Hk' H' R' s' => ?_⟩
    have post : ∀ v, FRes K H Hk' H' r v → Q v H' := fun v hv => by
      refine q v Hk' H' ⟨s'.s, R'.ex, R'.fr, fun a o h1 h2 => R'.kp a o h1 (fun z => z.elim (fun ⟨k, z⟩ => h2 k z) id), fun k a h => ?_, hv⟩
      obtain ⟨l, c, e1, e2⟩ := ioA_of h
      have := hA.ix k l c e1
      subst this
      obtain ⟨c', g1⟩ := ioKept_get hk e1
      have hlt : l < ps.length := by rw [← hl]; exact (List.getElem?_eq_some_iff.mp e1).1
      refine ⟨c', by rw [List.getElem?_take_of_lt hlt]; exact g1, (R'.oin a (.inl ⟨l, h⟩)).2, ?_⟩
      obtain ⟨o, _, b, _, _, z1, z2⟩ := R'.slot l _ g1
      have z1 : ioA ins vs l = some b := z1
      rw [h] at z1
      cases z1
      exact z2
    cases fl with
    | nx =>
      cases h2
      exact post .non .non
    | bk => cases h2
    | ct => cases h2
    | ex C fs => cases h2
    | rt r0 =>
      intro v hv
      cases r0 with
      | dat d =>
        cases h2
        exact post v hv
      | pv p =>
        obtain ⟨d, h3, rfl⟩ := Option.map_eq_some_iff.mp h2
        have hd : Dv K (Hk'.all H') v d := R'.deepP (Kn.all_same R') (fun n c a _ _ h => Kn.all_at h) 9 hv h3
        have hio : ∀ (n : Nat) k a, Hk'.P n = some a → ioA ins vs k ≠ some a := fun n k a h1 h2 => by
          obtain ⟨l, c, e1, e2⟩ := ioA_of h2
          have := hA.ix k l c e1
          subst this
          obtain ⟨c', g1⟩ := ioKept_get hk e1
          obtain ⟨o, z0, b, rfl, _, z1, z2⟩ := R'.slot l _ g1
          have z1 : ioA ins vs l = some b := z1
          rw [h2] at z1
          cases z1
          exact R'.psep l _ a n g1 trivial z0 h1
        refine q v (Hk'.all H') H' ⟨s'.s.trans (Kn.all_same R'), Kn.all_ex R', fun a h1 h2 => ?_, fun a o h1 h2 => R'.kp a o h1 (fun z => z.elim (fun ⟨k, z⟩ => h2 k z) id), fun k a h => ?_, hd⟩
        · by_cases hp : ∃ n, Hk'.P n = some a
          · obtain ⟨n, hn⟩ := hp
            by_cases hka : Hk' a = none
            · rcases (R'.pin n a hn).2 hka with z | z
              · exact z
              · exact False.elim (z.elim (fun ⟨k, z⟩ => hio n k a hn z) id)
            · exact R'.fr a hka h2
          · rw [Kn.all_out fun n z => hp ⟨n, z⟩] at h1
            exact R'.fr a h1 h2
        · obtain ⟨l, c, e1, e2⟩ := ioA_of h
          have := hA.ix k l c e1
          subst this
          obtain ⟨c', g1⟩ := ioKept_get hk e1
          have hlt : l < ps.length := by rw [← hl]; exact (List.getElem?_eq_some_iff.mp e1).1
          refine ⟨c', by rw [List.getElem?_take_of_lt hlt]; exact g1, ?_, ?_⟩
          · rw [Kn.all_out fun n z => hio n l a z h]
            exact (R'.oin a (.inl ⟨l, h⟩)).2
          · obtain ⟨o, _, b, _, _, z1, z2⟩ := R'.slot l _ g1
            have z1 : ioA ins vs l = some b := z1
            rw [h] at z1
            cases z1
            exact z2.mono (Kn.all_same R') fun o z => z
      | new c =>
        cases h2
        obtain ⟨a, rfl, q1, q2, q3, _⟩ := hv
        exact post _ ⟨a, rfl, q1, q2, q3⟩
      | slt i =>
        have hv : σ'[i]? = some (some v) := hv
        cases e : env'[i]? with
        | none =>
          simp only [finR, e] at h2
          cases h2
        | some s =>
          obtain ⟨o, g1, g2⟩ := R'.slot i s e
          rw [hv] at g1
          cases g1
          simp only [finR, e] at h2
          cases s with
          | val d =>
            cases h2
            obtain ⟨v', e1, z⟩ := g2
            cases e1
            exact post _ z
          | own c =>
            cases h2
            obtain ⟨a, e1, z1, z2, z3⟩ := g2
            cases e1
            exact post _ ⟨a, rfl, z1, z2, z3⟩
          | _ => cases h2
  · have hf : (if ioKept ins env' = true then some (r', env'.take ps.length) else none) = some (r, outs) := hf
    rw [if_neg hk] at hf
    cases hf
theorem fn_body {qual : Str} {st : Stmt} {f : Addr} {N ps : List Str} {mb : MS} (S : FnScope N ps (defScope st)) {cdv : Value} {A : Around} {outer : List Env} {s : Shared} {H : Hp} {E : XK} {vs : List V} {Q : VK}
    (hb : VSs ((cxOf CX0 P w K mg base N qual (defScope st) f cdv A outer s H E).nox) (defBody st) mb) (h : spF K (fmOf ps.length N.length mb) vs H Q E) :
    ∃ t, PSs (cxOf CX0 P w K mg base N qual (defScope st) f cdv A outer s H E) (defBody st) t ∧ t { nx := fun _ H' => Q .non H', rt := Q } (L2.start N vs) H := by
  obtain ⟨Hk, ins, r, outs, sm, hA, hf, q⟩ := h
  have hl := fmOf_len _ _ hf
  unfold fmOf at hf
  rw [if_pos hl] at hf
  exact fn_bodyG S hb sm hA hl (fun _ R => R) hf q
theorem fn_bodyS {qual : Str} {st : Stmt} {f : Addr} {N ps : List Str} {mb : MS} (S : FnScope N ps (defScope st)) {cdv : Value} {A : Around} {outer : List Env} {s : Shared} {H : Hp} {E : XK} {vs : List V} {Q : VK}
    (hb : VSs ((cxOf CX0 P w K mg base N qual (defScope st) f cdv A outer s H E).nox) (defBody st) mb) (h : spF K (fmSt ps.length N.length mb) vs H Q E) :
    ∃ t, PSs (cxOf CX0 P w K mg base N qual (defScope st) f cdv A outer s H E) (defBody st) t ∧ t { nx := fun _ H' => Q .non H', rt := Q } (L2.start N vs) H := by
  obtain ⟨Hk, ins, r, outs, sm, hA, hf, q⟩ := h
  have hl := fmSt_len _ _ hf
  unfold fmSt at hf
  rw [if_pos hl] at hf
  exact fn_bodyG S hb sm hA hl (fun hP R => R.stoNew hP _) hf q
theorem fn_ok {x qual : Str} {st : Stmt} {f : Addr} {fd : FuncData} {N ps : List Str} {k : Nat} {mb : MS} (F : FunD K x qual (defArgs st) (defBody st) (defScope st) [] [] f fd) (S : FnScope N ps (defScope st))
    (hb : ∀ (cdv : Value) (A : Around) (outer : List Env) (s : Shared) (H : Hp) (E : XK), Room k (A.deeper (envOfC qual (defScope st) s.heap.objs.size f cdv)) → VSs ((cxOf CX0 P w K mg base N qual (defScope st) f cdv A outer s H E).nox) (defBody st) mb) :
    FnOk P w K mg base CX0 (k + 1) f fd ps (spF K (fmOf ps.length N.length mb)) :=
  F.ok (CX := CX0) S spF_len fun cdv A outer s H vs Q E hr h => fn_body S (hb cdv A outer s H E hr) h
theorem fn_okS {x qual : Str} {st : Stmt} {f : Addr} {fd : FuncData} {N ps : List Str} {k : Nat} {mb : MS} (F : FunD K x qual (defArgs st) (defBody st) (defScope st) [] [] f fd) (S : FnScope N ps (defScope st))
    (hb : ∀ (cdv : Value) (A : Around) (outer : List Env) (s : Shared) (H : Hp) (E : XK), Room k (A.deeper (envOfC qual (defScope st) s.heap.objs.size f cdv)) → VSs ((cxOf CX0 P w K mg base N qual (defScope st) f cdv A outer s H E).nox) (defBody st) mb) :
    FnOk P w K mg base CX0 (k + 1) f fd ps (spF K (fmSt ps.length N.length mb)) :=
  F.ok (CX := CX0) S (spF_len' (fun _ _ => fmSt_len _ _)) fun cdv A outer s H vs Q E hr h => fn_bodyS S (hb cdv A outer s H E hr) h
end
end Cm
namespace Cm
open PySem L2
def argV (brw : Bool) (io : Option Nat) (env : Sl) (k : Nat) (r : Res) : Option Slot := if io = some k then (match r with
    | .slt i => match env[i]? with
      | some (.own c) => some (.io k c)
      | some (.io _ c) => some (.io k c)
      | _ => none
    | _ => none) else match r with
    | .dat d => some (.val d)
    | .slt i => match env[i]? with
      | some (.val d) => some (.val d)
      | some (.scr ns) => some (.scr ns)
      | some (.own c) => if brw then some (.val c.dat) else none
      | some (.io _ c) => if brw then some (.val c.dat) else none
      | _ => none
    | .pv p => if brw then (p.deep (sto env) 9).map .val else (p.kn (sto env)).map .val
    | _ => none
def argsV (brw : Bool) (io : Option Nat) (env : Sl) : Nat → List Res → Option Sl
  | _, [] => some []
  | k, r :: rs => (argV brw io env k r).bind fun s => (argsV brw io env (k + 1) rs).map (s :: ·)
def backV (io : Option Nat) (env : Sl) (rs : List Res) (outs : Sl) : Option Sl := match io with
  | none => some env
  | some q => match rs[q]?, outs[q]? with
    | some (.slt i), some (.io _ c) => match env[i]? with
      | some s => some (env.set i (s.put c))
      | none => none
    | _, _ => none
def flatD : PyData → Bool
  | .none => true
  | .bool _ => true
  | .int _ => true
  | .str _ => true
  | _ => false
def flatR : Res → Bool
  | .dat d => flatD d
  | .new (.lst ds) => ds.all flatD
  | .new (.dct es) => es.all fun p => flatD p.2
  | _ => false
def flatS : Slot → Bool
  | .io _ (.lst ds) => ds.all flatD
  | .io _ (.dct es) => es.all fun p => flatD p.2
  | _ => true
def lentOk (io : Option Nat) (rs : List Res) : Bool := match io with
  | none => true
  | some q => match rs[q]? with
    | some (.slt i) => (List.range rs.length).all fun j => j == q || (match rs[j]? with
      | some (.slt l) => l != i
      | _ => true)
    | _ => false
def mCallF (fm : FM) (io : Option Nat) (ms : MA) : ME := fun env => (ms env).bind fun p => if lentOk io p.1 = true then (argsV true io p.2 0 p.1).bind fun ins => (fm ins).bind fun q => if (flatR q.1 && q.2.all flatS) = true then (backV io p.2 p.1 q.2).map fun e => (q.1, e) else none else none
section
variable {X : Cx} {K : PySem.W.Frag} {B : Fb} {env : Sl} {σ : St} {Hk Hk' : Kn} {H H' : Hp}
theorem argsV_get {brw : Bool} {io : Option Nat} : ∀ {rs : List Res} {k : Nat} {ins : Sl}, argsV brw io env k rs = some ins → ins.length = rs.length ∧ ∀ (i : Nat) r, rs[i]? = some r → ∃ s, ins[i]? = some s ∧ argV brw io env (k + i) r = some s
  | [], k, ins, h => by
    cases h
    exact ⟨rfl, fun i r e => by simp at e⟩
  | r :: rs, k, ins, h => by
    obtain ⟨s, h1, h⟩ := Option.bind_eq_some_iff.mp h
    obtain ⟨ss, h2, h3⟩ := Option.map_eq_some_iff.mp h
    subst h3
    obtain ⟨l, g⟩ := argsV_get h2
    refine ⟨by simp [l], fun i r' e => ?_⟩
    cases i with
    | zero =>
      simp at e
      subst e
      exact ⟨s, rfl, h1⟩
    | succ i =>
      obtain ⟨s', q1, q2⟩ := g i r' (by simpa using e)
      refine ⟨s', by simpa using q1, ?_⟩
      rw [show k + (i + 1) = k + 1 + i by omega]
      exact q2
theorem RsAll.len : ∀ {rs : List Res} {vs : List V}, RsAll K σ Hk rs vs → rs.length = vs.length
  | _, _, .nil => rfl
  | _, _, .cons _ h => by
    have := RsAll.len h
    simp [this]
theorem RsAll.get : ∀ {rs : List Res} {vs : List V}, RsAll K σ Hk rs vs → ∀ (i : Nat) v, vs[i]? = some v → ∃ r, rs[i]? = some r ∧ RsOk K σ Hk r v
  | _, _, .nil, i, v, h => by simp at h
  | _, _, .cons h1 _, 0, v, h => by
    simp at h
    subst h
    exact ⟨_, rfl, h1⟩
  | _, _, .cons _ h2, i + 1, v, h => by
    obtain ⟨r, e, q⟩ := RsAll.get h2 i v (by simpa using h)
    exact ⟨r, by simpa using e, q⟩
theorem Rel.mutAt (R : Rel K B env σ Hk H) {i : Nat} {s : Slot} (hs : env[i]? = some s) (hm : s.mut) : ∃ a, σ[i]? = some (some (V.ref a)) ∧ Hk a = none ∧ (∃ o, H a = some o) ∧ (B.H0 a = none ∨ B.io a) := by
  obtain ⟨o, h1, h2⟩ := R.slot i s hs
  cases s with
  | no => cases hm
  | val d => cases hm
  | scr d => cases hm
  | pin a => cases hm
  | pv p => cases hm
  | sto M => cases hm
  | own c =>
    obtain ⟨a, rfl, q1, q2, q3⟩ := h2
    exact ⟨a, h1, q1, q3.there, .inl q2⟩
  | io k c =>
    obtain ⟨a, rfl, q1, q2, q3⟩ := h2
    exact ⟨a, h1, q1, q3.there, .inr (.inl ⟨k, q2⟩)⟩
theorem Rel.called (R : Rel K B env σ Hk H) (kn : Same Hk Hk') (hP : Hk'.P = Hk.P) (ex : Same Hk' H') (fr : ∀ a, Hk' a ≠ none → Hk a = none → H a = none) {i : Nat} {s : Slot} {a : Addr} {c' : Cell} (hs : env[i]? = some s) (hm : s.mut) (ha : σ[i]? = some (some (V.ref a)))
    (kp : ∀ b o, H b = some o → b ≠ a → H' b = some o) (hc : CellAt K Hk' H' a c') : Rel K B (env.set i (s.put c')) σ Hk' H' := by
  obtain ⟨a', e1, q1, ⟨o, ho⟩, q2⟩ := R.mutAt hs hm
  rw [ha] at e1
  cases e1
  obtain ⟨o', ho'⟩ := hc.there
  have hk' : Hk' a = none := by
    cases q : Hk' a with
    | none => rfl
    | some u => exact absurd (fr a (ne_none q) q1) (ne_none ho)
  have eqH : H' = upd (upd H' a o) a o' := by
    funext b
    by_cases e : b = a
    · rw [e, upd_same, ho']
    · rw [upd_ne e, upd_ne e]
  have sH : Same H (upd H' a o) := fun b x e => by
    by_cases z : b = a
    · rw [z] at e ⊢
      rw [ho] at e
      rw [upd_same]
      exact e
    · rw [upd_ne z]
      exact kp b x e z
  have R2 : Rel K B env σ Hk' (upd H' a o) := R.grow kn (fun b x e => by
    have z : b ≠ a := fun z => by rw [z, hk'] at e; cases e
    rw [upd_ne z]
    exact ex b x e) sH fr hP
  have hc2 : CellAt K Hk' (upd (upd H' a o) a o') a c' := by
    rw [← eqH]
    exact hc
  have R3 := R2.change hs hm ha hc2
  rw [← eqH] at R3
  exact R3
theorem same_of_keep {ins : Sl} {vs : List V} {H H' : Hp} (kp : ∀ a o, H a = some o → (∀ k, ioA ins vs k ≠ some a) → H' a = some o) (hn : ∀ k, ioA ins vs k = none) : Same H H' := fun a o e => kp a o e fun k z => by rw [hn k] at z; cases z
theorem args_io {brw : Bool} {io : Option Nat} {rs : List Res} {ins : Sl} (h : argsV brw io env 0 rs = some ins) {i k : Nat} {c : Cell} (e : ins[i]? = some (.io k c)) : k = i ∧ io = some i ∧ ∃ j s, rs[i]? = some (.slt j) ∧ env[j]? = some s ∧ s.mut ∧ (s = .own c ∨ ∃ l, s = .io l c) := by
  obtain ⟨l, g⟩ := argsV_get h
  have hi : i < rs.length := by rw [← l]; exact (List.getElem?_eq_some_iff.mp e).1
  obtain ⟨s, q1, q2⟩ := g i _ (List.getElem?_eq_getElem hi)
  rw [e] at q1
  cases q1
  rw [Nat.zero_add] at q2
  unfold argV at q2
  by_cases hio : io = some i
  · rw [if_pos hio] at q2
    cases er : rs[i] with
    | dat d => rw [er] at q2; cases q2
    | new d => rw [er] at q2; cases q2
    | pv p => rw [er] at q2; cases brw <;> simp at q2
    | slt j =>
      rw [er] at q2
      cases ej : env[j]? with
      | none => simp only [ej] at q2; cases q2
      | some s =>
        simp only [ej] at q2
        cases s with
        | no => cases q2
        | val d => cases q2
        | scr d => cases q2
        | pin a => cases q2
        | pv p => cases q2
        | sto M => cases q2
        | own c2 =>
          cases q2
          exact ⟨rfl, hio, j, _, by rw [List.getElem?_eq_getElem hi, er], ej, trivial, .inl rfl⟩
        | io l c2 =>
          cases q2
          exact ⟨rfl, hio, j, _, by rw [List.getElem?_eq_getElem hi, er], ej, trivial, .inr ⟨l, rfl⟩⟩
  · rw [if_neg hio] at q2
    cases er : rs[i] with
    | dat d => rw [er] at q2; cases q2
    | new d => rw [er] at q2; cases q2
    | pv p => rw [er] at q2; cases brw <;> simp at q2
    | slt j =>
      rw [er] at q2
      cases ej : env[j]? with
      | none => simp only [ej] at q2; cases q2
      | some s =>
        simp only [ej] at q2
        cases s with
        | no => cases q2
        | val d => cases q2
        | scr d => cases q2
        | pin a => cases q2
        | pv p => cases q2
        | sto M => cases q2
        | own c2 => cases brw <;> cases q2
        | io l c2 => cases brw <;> cases q2
theorem CellAt.slot (R : Rel K B env σ Hk H) {j : Nat} {s : Slot} {c : Cell} {a : Addr} (hs : env[j]? = some s) (hc : s = .own c ∨ ∃ l, s = .io l c) (ha : σ[j]? = some (some (V.ref a))) : CellAt K Hk H a c := by
  obtain ⟨o, h1, h2⟩ := R.slot j s hs
  rw [ha] at h1
  cases h1
  rcases hc with rfl | ⟨l, rfl⟩
  · obtain ⟨b, e1, _, _, q⟩ := h2
    cases e1
    exact q
  · obtain ⟨b, e1, _, _, q⟩ := h2
    cases e1
    exact q
theorem io_at (R : Rel K B env σ Hk H) {brw : Bool} {io : Option Nat} {rs : List Res} {ins : Sl} {vs : List V} (h : argsV brw io env 0 rs = some ins) (hr : RsAll K σ Hk rs vs) {k : Nat} {a : Addr} (e : ioA ins vs k = some a) :
    io = some k ∧ ∃ j s c, ins[k]? = some (.io k c) ∧ rs[k]? = some (.slt j) ∧ env[j]? = some s ∧ s.mut ∧ (s = .own c ∨ ∃ l, s = .io l c) ∧ σ[j]? = some (some (V.ref a)) ∧ vs[k]? = some (.ref a) := by
  obtain ⟨l, c, e1, e2⟩ := ioA_of e
  obtain ⟨rfl, hio, j, s, g1, g2, g3, g4⟩ := args_io h e1
  obtain ⟨r, q1, q2⟩ := hr.get l _ e2
  rw [g1] at q1
  cases q1
  exact ⟨hio, j, s, c, e1, g1, g2, g3, g4, q2, e2⟩
theorem back_is {io : Option Nat} {rs : List Res} {outs e2 : Sl} (h : backV io env rs outs = some e2) : (io = none ∧ e2 = env) ∨ ∃ q i k c s, io = some q ∧ rs[q]? = some (.slt i) ∧ outs[q]? = some (.io k c) ∧ env[i]? = some s ∧ e2 = env.set i (s.put c) := by
  cases io with
  | none =>
    cases h
    exact .inl ⟨rfl, rfl⟩
  | some q =>
    cases h1 : rs[q]? with
    | none => simp only [backV, h1] at h; cases h
    | some r =>
      cases r with
      | dat d => simp only [backV, h1] at h; cases h
      | new d => simp only [backV, h1] at h; cases h
      | pv p => simp only [backV, h1] at h; cases h
      | slt i =>
        cases h2 : outs[q]? with
        | none => simp only [backV, h1, h2] at h; cases h
        | some s =>
          cases s with
          | no => simp only [backV, h1, h2] at h; cases h
          | val d => simp only [backV, h1, h2] at h; cases h
          | own d => simp only [backV, h1, h2] at h; cases h
          | scr d => simp only [backV, h1, h2] at h; cases h
          | pin a => simp only [backV, h1, h2] at h; cases h
          | pv p => simp only [backV, h1, h2] at h; cases h
          | sto M => simp only [backV, h1, h2] at h; cases h
          | io k c =>
            cases h3 : env[i]? with
            | none => simp only [backV, h1, h2, h3] at h; cases h
            | some s =>
              simp only [backV, h1, h2, h3] at h
              cases h
              exact .inr ⟨q, i, k, c, s, rfl, h1, h2, h3, rfl⟩
theorem args_len {brw : Bool} {io : Option Nat} {rs : List Res} {ins : Sl} {vs : List V} (h : argsV brw io env 0 rs = some ins) (hr : RsAll K σ Hk rs vs) : ins.length = vs.length := by
  rw [(argsV_get h).1, hr.len]
theorem io_pos {brw : Bool} {q : Nat} {rs : List Res} {ins : Sl} {i : Nat} (h : argsV brw (some q) env 0 rs = some ins) (hq : rs[q]? = some (.slt i)) : ∃ c s, ins[q]? = some (.io q c) ∧ env[i]? = some s ∧ s.mut := by
  obtain ⟨s, q1, q2⟩ := (argsV_get h).2 q _ hq
  rw [Nat.zero_add] at q2
  unfold argV at q2
  rw [if_pos rfl] at q2
  cases ej : env[i]? with
  | none => simp only [ej] at q2; cases q2
  | some s2 =>
    simp only [ej] at q2
    cases s2 with
    | no => cases q2
    | val d => cases q2
    | scr d => cases q2
    | pin a => cases q2
    | pv p => cases q2
    | sto M => cases q2
    | own c2 =>
      cases q2
      exact ⟨_, _, q1, rfl, trivial⟩
    | io l c2 =>
      cases q2
      exact ⟨_, _, q1, rfl, trivial⟩
theorem Rel.after (R : Rel K B env σ Hk H) {brw : Bool} {io : Option Nat} {rs : List Res} {ins outs e2 : Sl} {vs : List V} {Hk2 : Hp} (h : argsV brw io env 0 rs = some ins) (hr : RsAll K σ Hk rs vs) (hb : backV io env rs outs = some e2)
    (kn : Same Hk Hk2) (ex : Same Hk2 H') (fr : ∀ a, Hk2 a ≠ none → Hk a = none → H a = none) (kp : ∀ a o, H a = some o → (∀ k, ioA ins vs k ≠ some a) → H' a = some o)
    (hio : ∀ k a c', ioA ins vs k = some a → outs[k]? = some (.io k c') → CellAt K Hk2 H' a c') (hk : ∀ k a, ioA ins vs k = some a → ∃ c', outs[k]? = some (.io k c')) : Rel K B e2 σ ⟨Hk2, Hk.P⟩ H' := by
  rcases back_is hb with ⟨rfl, rfl⟩ | ⟨q, i, k, c, s, rfl, h1, h2, h3, rfl⟩
  · refine R.grow (Hk' := ⟨Hk2, Hk.P⟩) kn ex (same_of_keep kp fun k => ?_) fr
    cases e : ioA ins vs k with
    | none => rfl
    | some a => cases (io_at R h hr e).1
  · obtain ⟨c0, s0, g1, g2, g3⟩ := io_pos h h1
    rw [h3] at g2
    cases g2
    obtain ⟨a, e1, _, _, _⟩ := R.mutAt h3 g3
    have hql : q < vs.length := by
      rw [← hr.len]
      exact (List.getElem?_eq_some_iff.mp h1).1
    obtain ⟨r, z1, z2⟩ := hr.get q _ (List.getElem?_eq_getElem hql)
    rw [h1] at z1
    cases z1
    have z2 : σ[i]? = some (some vs[q]) := z2
    rw [e1] at z2
    have hv : vs[q]? = some (.ref a) := by
      rw [List.getElem?_eq_getElem hql]
      exact congrArg some (Option.some.inj (Option.some.inj z2)).symm
    have hA : ioA ins vs q = some a := ioA_is g1 hv
    obtain ⟨c', h4⟩ := hk q a hA
    rw [h2] at h4
    cases h4
    refine R.called (Hk' := ⟨Hk2, Hk.P⟩) kn rfl ex fr h3 g3 e1 (fun b o hb hne => kp b o hb fun k z => ?_) (hio q a c hA h2)
    have := (io_at R h hr z).1
    cases this
    rw [hA] at z
    exact hne (Option.some.inj z).symm
theorem argVal {brw : Bool} {io : Option Nat} {i : Nat} {r : Res} {s : Slot} (hio : io ≠ some i) (h : argV brw io env i r = some s) :
    (∃ d, r = .dat d ∧ s = .val d) ∨ (∃ p d, r = .pv p ∧ s = .val d ∧ ((brw = true ∧ p.deep (sto env) 9 = some d) ∨ (brw = false ∧ p.kn (sto env) = some d))) ∨ ∃ j, r = .slt j ∧ ((∃ d, env[j]? = some (.val d) ∧ s = .val d) ∨ (∃ ns, env[j]? = some (.scr ns) ∧ s = .scr ns) ∨ (brw = true ∧ ∃ ds t, env[j]? = some t ∧ t.mut ∧ (t = .own ds ∨ ∃ l, t = .io l ds) ∧ s = .val (Cell.dat ds))) := by
  unfold argV at h
  rw [if_neg hio] at h
  cases r with
  | dat d =>
    cases h
    exact .inl ⟨d, rfl, rfl⟩
  | new d => cases h
  | pv p =>
    refine .inr (.inl ⟨p, ?_⟩)
    cases brw with
    | true =>
      obtain ⟨d, h1, rfl⟩ := Option.map_eq_some_iff.mp h
      exact ⟨d, rfl, rfl, .inl ⟨rfl, h1⟩⟩
    | false =>
      obtain ⟨d, h1, rfl⟩ := Option.map_eq_some_iff.mp h
      exact ⟨d, rfl, rfl, .inr ⟨rfl, h1⟩⟩
  | slt j =>
    refine .inr (.inr ⟨j, rfl, ?_⟩)
    cases ej : env[j]? with
    | none => simp only [ej] at h; cases h
    | some t =>
      simp only [ej] at h
      cases t with
      | no => cases h
      | val d =>
        cases h
        exact .inl ⟨d, rfl, rfl⟩
      | scr ns =>
        cases h
        exact .inr (.inl ⟨ns, rfl, rfl⟩)
      | pin a => cases h
      | pv p => cases h
      | sto M => cases h
      | own c =>
        cases brw with
        | true =>
          cases h
          exact .inr (.inr ⟨rfl, c, _, rfl, trivial, .inl rfl, rfl⟩)
        | false => cases h
      | io l c =>
        cases brw with
        | true =>
          cases h
          exact .inr (.inr ⟨rfl, c, _, rfl, trivial, .inr ⟨l, rfl⟩, rfl⟩)
        | false => cases h
theorem args_ok (R : Rel K B env σ Hk H) {brw : Bool} {io : Option Nat} {rs : List Res} {ins : Sl} {vs : List V} {Hl : Hp} (sm : Same Hk Hl) (hn : ∀ i j s a, io = some i → rs[i]? = some (.slt j) → env[j]? = some s → s.mut → σ[j]? = some (some (V.ref a)) → Hl a = none)
    (hl : ∀ i j s a, brw = true → io ≠ some i → rs[i]? = some (.slt j) → env[j]? = some s → s.mut → σ[j]? = some (some (V.ref a)) → Hl a = H a) (hp : brw = true → ∀ n a, Hk.P n = some a → Hl a = H a) (h : argsV brw io env 0 rs = some ins) (hr : RsAll K σ Hk rs vs) : ArgsOk K Hl H ins vs where
  len := args_len h hr
  arg := fun i s v e1 e2 => by
    obtain ⟨r, q1, q2⟩ := hr.get i v e2
    obtain ⟨s', z1, z2⟩ := (argsV_get h).2 i r q1
    rw [e1] at z1
    cases z1
    rw [Nat.zero_add] at z2
    by_cases hio : io = some i
    · cases s with
      | io k c =>
        obtain ⟨_, _, j, s2, g1, g2, g3, g4⟩ := args_io h e1
        rw [q1] at g1
        cases g1
        obtain ⟨a, w1, w2, w3, _⟩ := R.mutAt g2 g3
        have q2 : σ[j]? = some (some v) := q2
        have : v = .ref a := by rw [w1] at q2; exact (Option.some.inj (Option.some.inj q2)).symm
        subst this
        exact ⟨a, rfl, hn i j s2 a hio q1 g2 g3 w1, (CellAt.slot R g2 g4 w1).mono sm fun o z => z⟩
      | _ =>
        unfold argV at z2
        rw [if_pos hio] at z2
        cases r with
        | dat d => cases z2
        | new d => cases z2
        | pv p => cases brw <;> simp at z2
        | slt j =>
          cases ej : env[j]? with
          | none => simp only [ej] at z2; cases z2
          | some s => simp only [ej] at z2; cases s <;> simp at z2
    · rcases argVal hio z2 with ⟨d, rfl, rfl⟩ | ⟨p, d, rfl, rfl, ⟨hb, hd⟩ | ⟨hb, hd⟩⟩ | ⟨j, rfl, ⟨d, ej, rfl⟩ | ⟨ns, ej, rfl⟩ | ⟨hb, ds, t, ej, tm, tc, rfl⟩⟩
      · exact dv_mono sm _ _ q2
      · exact R.deepP sm (fun n c a _ _ h => hp hb n a h) 9 q2 hd
      · exact dv_mono sm _ _ (R.knP q2 hd)
      · have q2 : σ[j]? = some (some v) := q2
        obtain ⟨o, w1, w2⟩ := R.slot j _ ej
        rw [q2] at w1
        cases w1
        obtain ⟨v', x1, x2⟩ := w2
        cases x1
        exact dv_mono sm _ _ x2
      · have q2 : σ[j]? = some (some v) := q2
        obtain ⟨o, w1, w2⟩ := R.slot j _ ej
        rw [q2] at w1
        cases w1
        obtain ⟨a, x1, x2⟩ := w2
        cases x1
        exact ⟨a, rfl, sm.seq x2⟩
      · have q2 : σ[j]? = some (some v) := q2
        obtain ⟨a, w1, w2, w3, _⟩ := R.mutAt ej tm
        have : v = .ref a := by rw [w1] at q2; exact (Option.some.inj (Option.some.inj q2)).symm
        subst this
        obtain ⟨ob, y1, y2⟩ := (CellAt.slot R ej tc w1).obj
        refine y2 Hl sm ?_
        rw [hl i j t a hb hio q1 ej tm w1]
        exact y1
  ix := fun i k c e => (args_io h e).1
  sep := fun i j k l c c' a e1 e2 _ _ => by
    have h1 := (args_io h e1).2.1
    have h2 := (args_io h e2).2.1
    rw [h1] at h2
    exact Option.some.inj h2
theorem res_after (R : Rel K B env σ Hk H) {io : Option Nat} {rs : List Res} {outs e2 : Sl} (hb : backV io env rs outs = some e2) {a : Addr} (ha : H a = none) : ∀ (j : Nat) s, e2[j]? = some s → s.mut → σ[j]? ≠ some (some (V.ref a)) := fun j s hj hm z => by
  rcases back_is hb with ⟨_, rfl⟩ | ⟨q, i, k', c', s', _, _, _, g3, rfl⟩
  · exact R.mutNe ha hj hm z
  · rcases set_get hj with ⟨rfl, rfl⟩ | ⟨_, hj⟩
    · exact R.mutNe ha g3 (by cases s' <;> exact hm) z
    · exact R.mutNe ha hj hm z
theorem flat_dv {Hk : Hp} {d : PyData} {v : V} (h : flatD d = true) (q : Dv K Hk v d) (Hk2 : Hp) : Dv K Hk2 v d := by
  cases q with
  | non => exact .non
  | bl b => exact .bl b
  | int i => exact .int i
  | str x => exact .str x
  | lst _ _ => cases h
  | tup _ _ => cases h
  | dct _ _ => cases h
theorem flat_kvs {Hk : Hp} (Hk2 : Hp) : ∀ {ds : List (PyData × PyData)} {vs : List (Key × V)}, (ds.all fun p => flatD p.2) = true → DvKv K Hk vs ds → DvKv K Hk2 vs ds
  | _, _, _, .nil => .nil
  | _, _, h, .cons h1 h2 => by
    simp only [List.all_cons, Bool.and_eq_true] at h
    exact .cons (flat_dv h.1 h1 Hk2) (flat_kvs Hk2 h.2 h2)
theorem flat_dvs {Hk : Hp} (Hk2 : Hp) : ∀ {ds : List PyData} {vs : List V}, ds.all flatD = true → DvAll K Hk vs ds → DvAll K Hk2 vs ds
  | [], _, _, .nil => .nil
  | d :: ds, _, h, .cons h1 h2 => by
    simp only [List.all_cons, Bool.and_eq_true] at h
    exact .cons (flat_dv h.1 h1 Hk2) (flat_dvs Hk2 h.2 h2)
open Classical in
noncomputable def lent (rs : List Res) (io : Option Nat) (env : Sl) (σ : St) (Hk : Kn) (H : Hp) : Hp := fun a => if (∃ (p : Nat) (j : Nat) (s : Slot), rs[p]? = some (.slt j) ∧ io ≠ some p ∧ env[j]? = some s ∧ s.mut ∧ σ[j]? = some (some (V.ref a))) ∨ ∃ n, Hk.P n = some a then H a else Hk a
theorem lent_same (R : Rel K B env σ Hk H) {rs : List Res} {io : Option Nat} : Same Hk (lent rs io env σ Hk H) := fun a o e => by
  unfold lent
  split
  · exact R.ex _ _ e
  · exact e
theorem lent_ex (s : Same Hk H) {rs : List Res} {io : Option Nat} : Same (lent rs io env σ Hk H) H := fun a o e => by
  unfold lent at e
  split at e
  · exact e
  · exact s a o e
theorem lent_no (R : Rel K B env σ Hk H) {rs : List Res} {io : Option Nat} (hL : lentOk io rs = true) (i j : Nat) (s : Slot) (a : Addr) (hio : io = some i) (h1 : rs[i]? = some (.slt j)) (h2 : env[j]? = some s) (h3 : s.mut) (h4 : σ[j]? = some (some (V.ref a))) : lent rs io env σ Hk H a = none := by
  obtain ⟨b, w1, w2, _⟩ := R.mutAt h2 h3
  rw [h4] at w1
  cases w1
  unfold lent
  rw [if_neg]
  · exact w2
  · rintro (⟨p, j', s', x1, x2, x3, x4, x5⟩ | ⟨n, x⟩)
    rotate_left
    · exact R.psep j s a n h2 h3 h4 x
    have hp : p < rs.length := (List.getElem?_eq_some_iff.mp x1).1
    subst hio
    simp only [lentOk, h1, List.all_eq_true, List.mem_range, Bool.or_eq_true, beq_iff_eq] at hL
    rcases hL p hp with y | y
    · exact x2 (by rw [y])
    · rw [x1] at y
      simp only [bne_iff_ne, ne_eq] at y
      exact y (R.sep j' j s' s a x3 h2 x4 h3 x5 h4)
theorem callF_run {fm : FM} {io : Option Nat} {ms : MA} {Q : VK} (h : tE K (mCallF fm io ms) σ H Q) : tCall (spF K fm) [] E0 (tA K ms) σ H Q := by
  obtain ⟨B, env, Hk, res, env', R, hm, k⟩ := h
  obtain ⟨⟨rs, e1⟩, h1, hm⟩ := Option.bind_eq_some_iff.mp hm
  by_cases hL : lentOk io rs = true
  · have hm : (if lentOk io rs = true then _ else _) = some (res, env') := hm
    rw [if_pos hL] at hm
    obtain ⟨ins, h2, hm⟩ := Option.bind_eq_some_iff.mp hm
    obtain ⟨⟨r, outs⟩, h3, hm⟩ := Option.bind_eq_some_iff.mp hm
    by_cases hF : (flatR r && outs.all flatS) = true
    · have hm : (if (flatR r && outs.all flatS) = true then _ else _) = some (res, env') := hm
      rw [if_pos hF] at hm
      obtain ⟨e2, h4, hm⟩ := Option.map_eq_some_iff.mp hm
      cases hm
      rw [Bool.and_eq_true] at hF
      refine ⟨B, env, Hk, rs, e1, R, h1, fun vs Hk1 H1 R1 s1 o1 => ?_⟩
      show spF K fm (vs ++ []) H1 Q E0
      rw [List.append_nil]
      have sm : Same Hk1 (lent rs io e1 σ Hk1 H1) := lent_same R1
      have A : ArgsOk K (lent rs io e1 σ Hk1 H1) H1 ins vs := args_ok R1 sm (lent_no R1 hL) (fun i j s a _ g0 g1 g2 g3 g4 => by
        unfold lent
        rw [if_pos (.inl ⟨i, j, s, g1, g0, g2, g3, g4⟩)]) (fun _ n a g => by
        unfold lent
        rw [if_pos (.inr ⟨n, g⟩)]) h2 o1
      refine ⟨_, ins, r, outs, lent_ex R1.ex, A, h3, fun v Hk2 H2 p => ?_⟩
      have R2 : Rel K B env' σ Hk1 H2 := R1.after h2 o1 h4 (.refl _) ((sm.trans p.kn).trans p.ex) (fun a g1 g2 => absurd g2 g1) p.kp (fun k a c' e1 e2 => by
        obtain ⟨c2, g1, _, g2⟩ := p.io k a e1
        rw [e2] at g1
        cases g1
        have hfl := List.all_eq_true.mp hF.2 _ (List.mem_of_getElem? e2)
        cases c' with
        | lst ds =>
          obtain ⟨xs, y1, y2⟩ := g2
          exact ⟨xs, y1, flat_dvs Hk1 hfl y2⟩
        | dct es =>
          obtain ⟨xs, y1, y2⟩ := g2
          exact ⟨xs, y1, flat_kvs Hk1 hfl y2⟩) fun k a e => let ⟨c2, g1, _⟩ := p.io k a e; ⟨c2, g1⟩
      refine k v Hk1 H2 R2 s1 ?_
      have hres := p.res
      have hfr := hF.1
      cases r with
      | dat d => exact flat_dv hfr hres Hk1
      | slt i => cases hres
      | pv p => cases hres
      | new c =>
        cases c with
        | lst ds =>
          obtain ⟨a, rfl, q1, q2, xs, y1, y2⟩ := hres
          exact ⟨a, rfl, R1.kfree q2, R1.fresh0 q2, ⟨xs, y1, flat_dvs Hk1 hfr y2⟩, R1.pfree q2, res_after R1 h4 q2⟩
        | dct es =>
          obtain ⟨a, rfl, q1, q2, xs, y1, y2⟩ := hres
          exact ⟨a, rfl, R1.kfree q2, R1.fresh0 q2, ⟨xs, y1, flat_kvs Hk1 hfr y2⟩, R1.pfree q2, res_after R1 h4 q2⟩
    · have hm : (if (flatR r && outs.all flatS) = true then _ else _) = some (res, env') := hm
      rw [if_neg hF] at hm
      cases hm
  · have hm : (if lentOk io rs = true then _ else _) = some (res, env') := hm
    rw [if_neg hL] at hm
    cases hm
end
section
variable {X : Cx} {k : Nat} {f : Addr} {fd : FuncData} {ps : List Str} {fm : FM} {x : Str} {p pos : Pos} {e : Expr} {es : List Expr} {ms : MA}
theorem ve_callF (io : Option Nat) (F : FnOk X.prog X.w X.K X.mg X.base CX0 k f fd ps (spF X.K fm)) (hr : Room k X.A) (hm : X.mg x = some (.ref f)) (hk : PySem.W.keepIn X.K (.ref f) = true) (hb : Binds X.K fd ps [])
    (ha : VA X (e :: es) ms) (hg : Gl X x := by rfl) (hdb : (x == ("__debug__" : Str)) = false := by decide) (he : starEach (e :: es) X.env = (false, eval e X.env) :: starEach es X.env := by rfl) (hpl : (backTo pos (starEach es X.env)).any (·.1) = false := by rfl) :
    VE X (.Call (.Name x p) (e :: es) [] pos) (mCallF fm io ms) := (pe_call F hr hg hm hk hb .nil pass0 ha hdb he hpl).imp fun _ _ _ => callF_run
end
end Cm
namespace Cm
open PySem L2
section
variable {X : Cx} {K : PySem.W.Frag}
theorem opr_or {f : Value → Value → Sem Value} {r r' : R2} (h : OpR X f r) (h' : OpR X f r') : OpR X f (fun x y H Q => r x y H Q ∨ r' x y H Q) := by
  intro pins s σ H x y v u Q I rx ry q
  rcases q with q | q
  · exact h pins s σ H x y v u Q I rx ry q
  · exact h' pins s σ H x y v u Q I rx ry q
def gAdd : PyData → PyData → Option Res
  | .int i, .int j => some (.dat (.int (i + j)))
  | .str x, .str y => if x.length + y.length ≤ 100000 then some (.dat (.str (x ++ y))) else none
  | .list xs, .list ys => if xs.length + ys.length ≤ 100000 then some (.new (.lst (xs ++ ys))) else none
  | _, _ => none
def rAdd3 : R2 := fun x y H Q => (rI0 (fun i j => .int (i + j)) x y H Q) ∨ ((∃ i j, x = .str i ∧ y = .str j ∧ i.length + j.length ≤ sizeLine ∧ Q (.str (i ++ j)) H) ∨ rCat x y H Q)
theorem or_add : OpR X (binaryOp .Add) rAdd3 := opr_or op_add (opr_or op_add_str op_cat)
theorem od_add : OpD K rAdd3 gAdd := by
  intro Hk H x y dx dy res Q e vx vy h q
  unfold gAdd at h
  split at h
  · cases h
    exact .inl ⟨_, _, vx.int, vy.int, q _ _ (.inl ⟨rfl, .int _⟩)⟩
  · split at h
    · rename_i hz
      cases h
      exact .inr (.inl ⟨_, _, vx.str, vy.str, sz_of hz, q _ _ (.inl ⟨rfl, .str _⟩)⟩)
    · cases h
  · split at h
    · rename_i hz
      cases h
      obtain ⟨a, vs, rfl, h1, h2⟩ := vx.list e
      obtain ⟨b, ws, rfl, h3, h4⟩ := vy.list e
      exact .inr (.inr ⟨a, b, vs, ws, rfl, rfl, h1, h3, by rw [h2.len, h4.len]; exact sz_of hz, fun p hp => q _ _ ⟨p, _, rfl, hp, rfl, h2.append h4⟩⟩)
    · cases h
  · cases h
def gMinus : PyData → PyData → Option Res
  | .int i, .int j => some (.dat (.int (i - j)))
  | _, _ => none
theorem od_sub : OpD K (rI0 (fun i j => .int (i - j))) gMinus := by
  intro Hk H x y dx dy res Q e vx vy h q
  unfold gMinus at h
  split at h
  · cases h
    exact ⟨_, _, vx.int, vy.int, q _ _ (.inl ⟨rfl, .int _⟩)⟩
  · cases h
def repD (ds : List PyData) (k : Int) : List PyData := (List.replicate k.toNat ds).flatten
def gMul : PyData → PyData → Option Res
  | .int i, .int j => if (-(2 ^ 64) < i ∧ i < 2 ^ 64) ∨ (-(2 ^ 64) < j ∧ j < 2 ^ 64) then some (.dat (.int (i * j))) else none
  | .list ds, .int k => if -(2 ^ 63) ≤ k ∧ k < 2 ^ 63 ∧ ds.length * k.toNat ≤ 100000 then some (.new (.lst (repD ds k))) else none
  | _, _ => none
def rMul2 : R2 := fun x y H Q => rI CMul (fun i j => .int (i * j)) x y H Q ∨ rRep x y H Q
theorem or_mul : OpR X (binaryOp .Mult) rMul2 := opr_or op_mul op_rep
theorem dv_rep {Hk : Hp} {vs : List V} {ds : List PyData} (h : DvAll K Hk vs ds) : ∀ n : Nat, DvAll K Hk (List.replicate n vs).flatten (List.replicate n ds).flatten
  | 0 => .nil
  | n + 1 => by
    rw [List.replicate_succ, List.replicate_succ, List.flatten_cons, List.flatten_cons]
    exact h.append (dv_rep h n)
theorem od_mul : OpD K rMul2 gMul := by
  intro Hk H x y dx dy res Q e vx vy h q
  unfold gMul at h
  split at h
  · split at h
    · rename_i hz
      cases h
      exact .inl ⟨_, _, vx.int, vy.int, hz, q _ _ (.inl ⟨rfl, .int _⟩)⟩
    · cases h
  · split at h
    · rename_i hz
      cases h
      obtain ⟨a, vs, rfl, h1, h2⟩ := vx.list e
      exact .inr ⟨a, _, vs, rfl, vy.int, h1, hz.1, hz.2.1, by rw [h2.len]; exact sz_of hz.2.2, fun p hp => q _ _ ⟨p, _, rfl, hp, rfl, dv_rep h2 _⟩⟩
    · cases h
  · cases h
def gDiv : PyData → PyData → Option Res
  | .int i, .int j => if 0 < j ∧ j < 1073741824 then some (.dat (.int (i / j))) else none
  | _, _ => none
theorem od_div : OpD K (rI CDiv (fun i j => .int (i / j))) gDiv := by
  intro Hk H x y dx dy res Q e vx vy h q
  unfold gDiv at h
  split at h
  · split at h
    · rename_i hz
      cases h
      exact ⟨_, _, vx.int, vy.int, hz, q _ _ (.inl ⟨rfl, .int _⟩)⟩
    · cases h
  · cases h
def gMod : PyData → PyData → Option Res
  | .int i, .int j => if 0 < j then some (.dat (.int (i % j))) else none
  | _, _ => none
theorem od_mod : OpD K (rI (fun _ j => 0 < j) (fun i j => .int (i % j))) gMod := by
  intro Hk H x y dx dy res Q e vx vy h q
  unfold gMod at h
  split at h
  · split at h
    · rename_i hz
      cases h
      exact ⟨_, _, vx.int, vy.int, hz, q _ _ (.inl ⟨rfl, .int _⟩)⟩
    · cases h
  · cases h
def gPow : PyData → PyData → Option Res
  | .int i, .int j => if 0 ≤ j ∧ j ≤ 1000000 ∧ i.natAbs < 2 ^ 64 then some (.dat (.int (i ^ j.toNat))) else none
  | _, _ => none
theorem od_pow : OpD K (rI CPow (fun i j => .int (i ^ j.toNat))) gPow := by
  intro Hk H x y dx dy res Q e vx vy h q
  unfold gPow at h
  split at h
  · split at h
    · rename_i hz
      cases h
      exact ⟨_, _, vx.int, vy.int, hz, q _ _ (.inl ⟨rfl, .int _⟩)⟩
    · cases h
  · cases h
def gNeg : PyData → Option Res
  | .int i => some (.dat (.int (-i)))
  | _ => none
theorem ud_neg : UnD K (rU fun i => .int (-i)) gNeg := by
  intro Hk H x dx res Q e vx h q
  unfold gNeg at h
  split at h
  · cases h
    exact ⟨_, vx.int, q _ _ (.inl ⟨rfl, .int _⟩)⟩
  · cases h
def gCmp (p : Int → Int → Bool) : PyData → PyData → Option Res
  | .int i, .int j => some (.dat (.bool (p i j)))
  | _, _ => none
theorem od_cmp {p : Int → Int → Bool} : OpD K (rI0 fun i j => .bl (p i j)) (gCmp p) := by
  intro Hk H x y dx dy res Q e vx vy h q
  unfold gCmp at h
  split at h
  · cases h
    exact ⟨_, _, vx.int, vy.int, q _ _ (.inl ⟨rfl, .bl _⟩)⟩
  · cases h
def scalD : PyData → PyData → Bool
  | .none, .none => true | .none, .int _ => true | .int _, .none => true | .none, .bool _ => true | .bool _, .none => true | .none, .str _ => true | .str _, .none => true
  | .int _, .int _ => true | .bool _, .bool _ => true | .str _, .str _ => true
  | .int _, .str _ => true | .str _, .int _ => true | .bool _, .str _ => true | .str _, .bool _ => true
  | _, _ => false
def gEq (neg : Bool) (dx dy : PyData) : Option Res := if (scalD dx dy || (SeqAt.shaped dx && SeqAt.shaped dy)) = true then some (.dat (.bool (neg ^^ PyData.eqv dx dy))) else none
def rEqU (K : PySem.W.Frag) : R2 := fun x y H Q => rEq x y H Q ∨ rEqD K x y H Q
def rNeU (K : PySem.W.Frag) : R2 := fun x y H Q => rNe x y H Q ∨ rNeD K x y H Q
theorem or_eq (hu : X.A.units + 64 < cLine) : OpR X (compareOp .Eq) (rEqU X.K) := opr_or op_eq (op_eqD hu)
theorem or_ne (hu : X.A.units + 64 < cLine) : OpR X (compareOp .NotEq) (rNeU X.K) := opr_or op_ne (op_neD hu)
theorem scal_eq {Hk H : Hp} {x y : V} {dx dy : PyData} (vx : View K Hk H x dx) (vy : View K Hk H y dy) (h : scalD dx dy = true) : scal x y = true ∧ decide (x = y) = PyData.eqv dx dy := by
  cases dx with
  | none =>
    rw [vx.non]
    cases dy with
    | none => rw [vy.non]; exact ⟨rfl, rfl⟩
    | int j => rw [vy.int]; exact ⟨rfl, rfl⟩
    | bool j => rw [vy.bool]; exact ⟨rfl, rfl⟩
    | str j => rw [vy.str]; exact ⟨rfl, rfl⟩
    | _ => cases h
  | int i =>
    rw [vx.int]
    cases dy with
    | none => rw [vy.non]; exact ⟨rfl, rfl⟩
    | int j => rw [vy.int]; exact ⟨rfl, dec_int⟩
    | str j => rw [vy.str]; exact ⟨rfl, rfl⟩
    | _ => cases h
  | bool i =>
    rw [vx.bool]
    cases dy with
    | none => rw [vy.non]; exact ⟨rfl, rfl⟩
    | bool j => rw [vy.bool]; exact ⟨rfl, dec_bl⟩
    | str j => rw [vy.str]; exact ⟨rfl, rfl⟩
    | _ => cases h
  | str i =>
    rw [vx.str]
    cases dy with
    | none => rw [vy.non]; exact ⟨rfl, rfl⟩
    | int j => rw [vy.int]; exact ⟨rfl, rfl⟩
    | bool j => rw [vy.bool]; exact ⟨rfl, rfl⟩
    | str j => rw [vy.str]; exact ⟨rfl, dec_str⟩
    | _ => cases h
  | list _ => cases dy <;> cases h
  | tuple _ => cases dy <;> cases h
  | dict _ => cases dy <;> cases h
theorem od_eq : OpD K (rEqU K) (gEq false) := by
  intro Hk H x y dx dy res Q e vx vy h q
  unfold gEq at h
  split at h
  · rename_i hz
    cases h
    rw [Bool.false_xor] at q
    rcases Bool.or_eq_true_iff.mp hz with hz | hz
    · obtain ⟨h1, h2⟩ := scal_eq vx vy hz
      refine .inl ⟨h1, ?_⟩
      rw [h2]
      exact q _ _ (.inl ⟨rfl, .bl _⟩)
    · rw [Bool.and_eq_true] at hz
      exact .inr ⟨dx, dy, (vx.dv e).dp _ _ (SeqAt.canLay_of_shaped hz.1), (vy.dv e).dp _ _ (SeqAt.canLay_of_shaped hz.2), hz.1, hz.2, q _ _ (.inl ⟨rfl, .bl _⟩)⟩
  · cases h
theorem od_ne : OpD K (rNeU K) (gEq true) := by
  intro Hk H x y dx dy res Q e vx vy h q
  unfold gEq at h
  split at h
  · rename_i hz
    cases h
    rw [Bool.true_xor] at q
    rcases Bool.or_eq_true_iff.mp hz with hz | hz
    · obtain ⟨h1, h2⟩ := scal_eq vx vy hz
      refine .inl ⟨h1, ?_⟩
      rw [h2]
      exact q _ _ (.inl ⟨rfl, .bl _⟩)
    · rw [Bool.and_eq_true] at hz
      exact .inr ⟨dx, dy, (vx.dv e).dp _ _ (SeqAt.canLay_of_shaped hz.1), (vy.dv e).dp _ _ (SeqAt.canLay_of_shaped hz.2), hz.1, hz.2, q _ _ (.inl ⟨rfl, .bl _⟩)⟩
  · cases h
def isNoneD : PyData → Bool
  | .none => true
  | _ => false
def gIsN (neg : Bool) : PyData → PyData → Option Res
  | d, .none => some (.dat (.bool (neg ^^ isNoneD d)))
  | _, _ => none
theorem isN_v {Hk H : Hp} {x : V} {dx : PyData} (vx : View K Hk H x dx) (e : Same Hk H) : decide (x = .non) = isNoneD dx := by
  have h := vx.dv e
  cases h <;> rfl
theorem od_isN : OpD K (fun x y H Q => y = .non ∧ Q (.bl (decide (x = .non))) H) (gIsN false) := by
  intro Hk H x y dx dy res Q e vx vy h q
  unfold gIsN at h
  split at h
  · cases h
    refine ⟨vy.non, ?_⟩
    rw [isN_v vx e]
    rw [Bool.false_xor] at q
    exact q _ _ (.inl ⟨rfl, .bl _⟩)
  · cases h
def gIx : PyData → PyData → Option Res
  | .list ds, .int i => (atI ds i).map .dat
  | .tuple ds, .int i => (atI ds i).map .dat
  | .str z, .int i => if z.length ≤ 100000 then (atI z.cps.toList i).map fun c => .dat (.str ⟨#[c]⟩) else none
  | _, _ => none
theorem at_dv {Hk : Hp} {vs : List V} {ds : List PyData} (h : DvAll K Hk vs ds) {i : Int} {d : PyData} (e : atI ds i = some d) : ∃ v, atI vs i = some v ∧ Dv K Hk v d := by
  unfold atI at e ⊢
  rw [h.len]
  obtain ⟨j, h1, h2⟩ := Option.bind_eq_some_iff.mp e
  obtain ⟨v, h3, h4⟩ := h.get j d h2
  exact ⟨v, by rw [h1]; exact h3, h4⟩
theorem od_ix : OpD K (rIx K) gIx := by
  intro Hk H x y dx dy res Q e vx vy h q
  unfold gIx at h
  split at h
  · obtain ⟨d, h1, rfl⟩ := Option.map_eq_some_iff.mp h
    obtain ⟨a, vs, rfl, g1, g2⟩ := vx.list e
    obtain ⟨v, g3, g4⟩ := at_dv g2 h1
    exact .inl ⟨a, vs, _, v, rfl, vy.int, SqL.of g1, g3, q _ _ (.inl ⟨rfl, g4⟩)⟩
  · obtain ⟨d, h1, rfl⟩ := Option.map_eq_some_iff.mp h
    obtain ⟨a, vs, rfl, g1, g2⟩ := vx.tup e
    obtain ⟨v, g3, g4⟩ := at_dv g2 h1
    exact .inr (.inl ⟨a, vs, _, v, rfl, vy.int, g1, g3, q _ _ (.inl ⟨rfl, g4⟩)⟩)
  · split at h
    · rename_i hz
      obtain ⟨c, h1, rfl⟩ := Option.map_eq_some_iff.mp h
      exact .inr (.inr ⟨_, _, c, vx.str, vy.int, sz_of hz, h1, q _ _ (.inl ⟨rfl, .str _⟩)⟩)
    · cases h
  · cases h
def cutD (ds : List PyData) (lo hi : Option Int) : List PyData := (ds.drop (HT.sIx ds.length 0 lo)).take (HT.sIx ds.length ds.length hi - HT.sIx ds.length 0 lo)
theorem cut_dv {Hk : Hp} {vs : List V} {ds : List PyData} (h : DvAll K Hk vs ds) (lo hi : Option Int) : DvAll K Hk (cutV vs lo hi) (cutD ds lo hi) := by
  unfold cutV cutD
  rw [h.len]
  exact (h.drop _).take _
abbrev MO := Sl → Option (Option Int × Sl)
def tO (K : PySem.W.Frag) (m : MO) : TO := fun σ H Q => ∃ B env Hk o env', Rel K B env σ Hk H ∧ m env = some (o, env') ∧ ∀ Hk' H', Rel K B env' σ Hk' H' → KSame Hk Hk' → Q o H'
def mNoPart : MO := fun env => some (none, env)
def mPart (m : ME) : MO := fun env => (m env).bind fun p => match p.1 with
  | .dat (.int i) => some (some i, p.2)
  | _ => none
abbrev VO (X : Cx) (e : Option Expr) (m : MO) : Prop := PO X e (tO X.K m)
theorem _root_.L2.PO.imp {X : Cx} {e : Option Expr} {t t' : TO} (h : PO X e t) (k : ∀ σ H Q, t' σ H Q → t σ H Q) : PO X e t' := ⟨fun pins s σ H Q I q => h.run pins s σ H Q I (k σ H Q q)⟩
theorem vo_none : VO X none mNoPart := po_none.imp fun σ H Q h => by
  obtain ⟨B, env, Hk, o, env', R, hm, k⟩ := h
  cases hm
  exact k Hk H R (.refl _)
theorem vo_some {e : Expr} {m : ME} (h : VE X e m) : VO X (some e) (mPart m) := (po_some h).imp fun σ H Q h => by
  obtain ⟨B, env, Hk, o, env', R, hm, k⟩ := h
  obtain ⟨⟨r, e1⟩, h1, hm⟩ := Option.bind_eq_some_iff.mp hm
  refine ⟨B, env, Hk, r, e1, R, h1, fun v Hk1 H1 R1 s1 o1 => ?_⟩
  cases r with
  | new c => cases hm
  | slt i => cases hm
  | pv p => cases hm
  | dat d =>
    cases d with
    | int i =>
      cases hm
      cases o1
      exact ⟨i, rfl, k Hk1 H1 R1 s1⟩
    | _ => cases hm
def SlD (K : PySem.W.Frag) (r : V → Option Int → Option Int → Hp → VK → Prop) (g : PyData → Option Int → Option Int → Option Res) : Prop := ∀ (Hk H : Hp) (x : V) (dx : PyData) (lo hi : Option Int) (res : Res) (Q : VK), Same Hk H → View K Hk H x dx → g dx lo hi = some res → (∀ v H', Out K Hk H res v H' → Q v H') → r x lo hi H Q
def mSl (g : PyData → Option Int → Option Int → Option Res) (m : ME) (ml mh : MO) : ME := fun env => (m env).bind fun p => (ml p.2).bind fun a => (mh a.2).bind fun b => (rdv b.2 (stab p.1)).bind fun dx => (g dx a.1 b.1).map fun r => (r, b.2)
theorem sl_run {r : V → Option Int → Option Int → Hp → VK → Prop} {g : PyData → Option Int → Option Int → Option Res} {m : ME} {ml mh : MO} (hg : SlD K r g) {σ : St} {H : Hp} {Q : VK} (h : tE K (mSl g m ml mh) σ H Q) : tSl r (tE K m) (tO K ml) (tO K mh) σ H Q := by
  obtain ⟨B, env, Hk, res, env', R, hm, k⟩ := h
  obtain ⟨⟨x, e1⟩, h1, hm⟩ := Option.bind_eq_some_iff.mp hm
  obtain ⟨⟨lo, e2⟩, h2, hm⟩ := Option.bind_eq_some_iff.mp hm
  obtain ⟨⟨hi, e3⟩, h3, hm⟩ := Option.bind_eq_some_iff.mp hm
  obtain ⟨dx, h4, hm⟩ := Option.bind_eq_some_iff.mp hm
  obtain ⟨res', h5, hm⟩ := Option.map_eq_some_iff.mp hm
  cases hm
  refine ⟨B, env, Hk, x, e1, R, h1, fun v Hk1 H1 R1 s1 o1 => ?_⟩
  obtain ⟨Hk1', R1', s1', o1'⟩ := R1.stab o1
  refine ⟨B, e1, Hk1', lo, e2, R1', h2, fun Hk2 H2 R2 s2 => ?_⟩
  refine ⟨B, e2, Hk2, hi, e3, R2, h3, fun Hk3 H3 R3 s3 => ?_⟩
  refine hg Hk3 H3 v dx lo hi res Q R3.ex (R3.view ((o1'.mono s2).mono s3) h4) h5 fun z H4 out => ?_
  obtain ⟨Hk4, R4, s4, o4⟩ := R3.out out
  exact k z Hk4 H4 R4 ((((s1.trans s1').trans s2).trans s3).trans s4) o4
theorem ve_slice {r : V → Option Int → Option Int → Hp → VK → Prop} {g : PyData → Option Int → Option Int → Option Res} {e : Expr} {lo hi : Option Expr} {m : ME} {ml mh : MO} {p2 pos : Pos} (hr : SlR X r) (hg : SlD X.K r g) (he : VE X e m) (hl : VO X lo ml) (hu : VO X hi mh) : VE X (.Subscript e (.Slice lo hi none p2) pos) (mSl g m ml mh) :=
  (pe_slice hr he hl hu).imp fun _ _ _ => sl_run hg
def gSlL : PyData → Option Int → Option Int → Option Res
  | .list ds, lo, hi => some (.new (.lst (cutD ds lo hi)))
  | _, _, _ => none
theorem sd_list : SlD K (rSlL K) gSlL := by
  intro Hk H x dx lo hi res Q e vx h q
  unfold gSlL at h
  split at h
  · cases h
    obtain ⟨a, vs, rfl, g1, g2⟩ := vx.list e
    exact ⟨a, vs, rfl, SqL.of g1, fun p hp => q _ _ ⟨p, _, rfl, hp, rfl, cut_dv g2 lo hi⟩⟩
  · cases h
def mSlScr (i : Nat) (ml mh : MO) : ME := fun env => match env[i]? with
  | some (.scr ns) => (ml env).bind fun a => (mh a.2).map fun b => (.new (.lst (cutD (ns.map .int) a.1 b.1)), b.2)
  | _ => none
theorem dv_ints {Hk : Hp} : ∀ ns : List Int, DvAll K Hk (ns.map V.int) (ns.map .int)
  | [] => .nil
  | n :: ns => .cons (.int n) (dv_ints ns)
theorem slScr_run {i : Nat} {ml mh : MO} {σ : St} {H : Hp} {Q : VK} (h : tE K (mSlScr i ml mh) σ H Q) : tSl (rSlL K) (tVar i) (tO K ml) (tO K mh) σ H Q := by
  obtain ⟨B, env, Hk, res, env', R, hm, k⟩ := h
  unfold mSlScr at hm
  split at hm
  · rename_i ns he
    obtain ⟨⟨lo, e2⟩, h2, hm⟩ := Option.bind_eq_some_iff.mp hm
    obtain ⟨⟨hi, e3⟩, h3, hm⟩ := Option.map_eq_some_iff.mp hm
    cases hm
    obtain ⟨o, g1, a, rfl, g2⟩ := R.slot i _ he
    refine ⟨_, g1, B, env, Hk, lo, e2, R, h2, fun Hk2 H2 R2 s2 => ?_⟩
    refine ⟨B, e2, Hk2, hi, _, R2, h3, fun Hk3 H3 R3 s3 => ?_⟩
    refine ⟨a, _, rfl, R3.ex.seq ((s2.trans s3).seq g2), fun p hp => ?_⟩
    obtain ⟨Hk4, R4, s4, o4⟩ := R3.out (r := .new (.lst (cutD (ns.map .int) lo hi))) ⟨p, _, rfl, hp, rfl, cut_dv (dv_ints ns) lo hi⟩
    exact k _ Hk4 _ R4 ((s2.trans s3).trans s4) o4
  · cases hm
theorem ve_sliceScr (i : Nat) {x : Str} {lo hi : Option Expr} {ml mh : MO} {p1 p2 pos : Pos} (hl : VO X lo ml) (hu : VO X hi mh) (hN : X.N[i]? = some x := by rfl) (hv : Vis X.env.scope x := by first | exact Or.inl rfl | exact Or.inr (Or.inl rfl) | exact Or.inr (Or.inr rfl)) (hd : (x == ("__debug__" : Str)) = false := by decide)
    (hcd : (x == ("__classdict__" : Str)) = false := by decide) : VE X (.Subscript (.Name x p1) (.Slice lo hi none p2) pos) (mSlScr i ml mh) := (pe_slice sl_list (pe_var hN hv hd hcd) hl hu).imp fun _ _ _ => slScr_run
def gLen : List PyData → Option Res
  | [.list ds] => some (.dat (.int ds.length))
  | [.tuple ds] => some (.dat (.int ds.length))
  | [.str x] => if x.length ≤ 100000 then some (.dat (.int x.length)) else none
  | _ => none
theorem cd_len : CallD K (fun xs H Q => ∃ x n, xs = [x] ∧ LenV K x H n ∧ Q (.int n) H) gLen := by
  intro Hk H vs ds res Q e hv h q
  unfold gLen at h
  split at h
  · cases h
    cases hv with
    | cons v1 v2 =>
      cases v2
      obtain ⟨a, ws, rfl, g1, g2⟩ := v1.list e
      exact ⟨_, _, rfl, .inl ⟨ws, SqL.of g1, rfl⟩, by rw [g2.len]; exact q _ _ (.inl ⟨rfl, .int _⟩)⟩
  · cases h
    cases hv with
    | cons v1 v2 =>
      cases v2
      obtain ⟨a, ws, rfl, g1, g2⟩ := v1.tup e
      exact ⟨_, _, rfl, .inr ⟨ws, g1, rfl⟩, by rw [g2.len]; exact q _ _ (.inl ⟨rfl, .int _⟩)⟩
  · split at h
    · rename_i hz
      cases h
      cases hv with
      | cons v1 v2 =>
        cases v2
        rw [v1.str]
        exact ⟨_, _, rfl, ⟨sz_of hz, rfl⟩, q _ _ (.inl ⟨rfl, .int _⟩)⟩
    · cases h
  · cases h
def gInt1 (f : Int → Int) : List PyData → Option Res
  | [.int i] => some (.dat (.int (f i)))
  | _ => none
theorem cd_int1 {f : Int → Int} : CallD K (fun xs H Q => ∃ i, xs = [.int i] ∧ Q (.int (f i)) H) (gInt1 f) := by
  intro Hk H vs ds res Q e hv h q
  unfold gInt1 at h
  split at h
  · cases h
    cases hv with
    | cons v1 v2 =>
      cases v2
      rw [v1.int]
      exact ⟨_, rfl, q _ _ (.inl ⟨rfl, .int _⟩)⟩
  · cases h
def gInt2 (f : Int → Int → Int) : List PyData → Option Res
  | [.int i, .int j] => some (.dat (.int (f i j)))
  | _ => none
theorem cd_int2 {f : Int → Int → Int} : CallD K (fun xs H Q => ∃ i j, xs = [.int i, .int j] ∧ Q (.int (f i j)) H) (gInt2 f) := by
  intro Hk H vs ds res Q e hv h q
  unfold gInt2 at h
  split at h
  · cases h
    cases hv with
    | cons v1 v2 =>
      cases v2 with
      | cons v2 v3 =>
        cases v3
        rw [v1.int, v2.int]
        exact ⟨_, _, rfl, q _ _ (.inl ⟨rfl, .int _⟩)⟩
  · cases h
def gInt : List PyData → Option Res
  | [.int i] => some (.dat (.int i))
  | [.bool b] => some (.dat (.int (if b then 1 else 0)))
  | _ => none
theorem cd_int : CallD K (fun xs H Q => (∃ i, xs = [.int i] ∧ Q (.int i) H) ∨ ∃ k, xs = [.bl k] ∧ Q (.int (if k then 1 else 0)) H) gInt := by
  intro Hk H vs ds res Q e hv h q
  unfold gInt at h
  split at h
  · cases h
    cases hv with
    | cons v1 v2 =>
      cases v2
      rw [v1.int]
      exact .inl ⟨_, rfl, q _ _ (.inl ⟨rfl, .int _⟩)⟩
  · cases h
    cases hv with
    | cons v1 v2 =>
      cases v2
      rw [v1.bool]
      exact .inr ⟨_, rfl, q _ _ (.inl ⟨rfl, .int _⟩)⟩
  · cases h
def gStr : List PyData → Option Res
  | [.int i] => if i.natAbs.log2 < 1920 then some (.dat (.str (toString i))) else none
  | _ => none
theorem cd_str : CallD K (fun xs H Q => ∃ i, xs = [.int i] ∧ i.natAbs.log2 < 1920 ∧ Q (.str (toString i)) H) gStr := by
  intro Hk H vs ds res Q e hv h q
  unfold gStr at h
  split at h
  · split at h
    · rename_i hz
      cases h
      cases hv with
      | cons v1 v2 =>
        cases v2
        rw [v1.int]
        exact ⟨_, rfl, hz, q _ _ (.inl ⟨rfl, .str _⟩)⟩
    · cases h
  · cases h
def boolsD : List PyData → Option (List Bool)
  | [] => some []
  | .bool i :: ds => (boolsD ds).map (i :: ·)
  | _ => none
theorem bools_dv {Hk : Hp} : ∀ {ds : List PyData} {vs : List V} {ns : List Bool}, DvAll K Hk vs ds → boolsD ds = some ns → vs = ns.map V.bl
  | [], _, ns, .nil, h => by cases h; rfl
  | .bool i :: ds, _, ns, .cons h1 h2, h => by
    obtain ⟨ms, e1, e2⟩ := Option.map_eq_some_iff.mp h
    subst e2
    cases h1
    rw [bools_dv h2 e1]
    rfl
  | .none :: ds, _, ns, .cons h1 h2, h => by cases h
  | .int _ :: ds, _, ns, .cons h1 h2, h => by cases h
  | .str _ :: ds, _, ns, .cons h1 h2, h => by cases h
  | .list _ :: ds, _, ns, .cons h1 h2, h => by cases h
  | .tuple _ :: ds, _, ns, .cons h1 h2, h => by cases h
  | .dict _ :: ds, _, ns, .cons h1 h2, h => by cases h
def gAll : List PyData → Option Res
  | [.list ds] => (boolsD ds).map fun ns => .dat (.bool (ns.all id))
  | _ => none
theorem cd_all : CallD K (rAll K) gAll := by
  intro Hk H vs ds res Q e hv h q
  unfold gAll at h
  split at h
  · obtain ⟨ns, h1, rfl⟩ := Option.map_eq_some_iff.mp h
    cases hv with
    | cons v1 v2 =>
      cases v2
      obtain ⟨a, ws, rfl, g1, g2⟩ := v1.list e
      rw [bools_dv g2 h1] at g1
      exact ⟨a, ns, rfl, SqL.of g1, q _ _ (.inl ⟨rfl, .bl _⟩)⟩
  · cases h
def gList : List PyData → Option Res
  | [.list ds] => some (.new (.lst ds))
  | [.tuple ds] => some (.new (.lst ds))
  | _ => none
theorem cd_list : CallD K (fun xs H Q => ∃ p ys, xs = [.ref p] ∧ (SqL K H p ys ∨ SqT K H p ys) ∧ ∀ l, H l = none → Q (.ref l) (upd H l (.lst ys))) gList := by
  intro Hk H vs ds res Q e hv h q
  unfold gList at h
  split at h
  · cases h
    cases hv with
    | cons v1 v2 =>
      cases v2
      obtain ⟨a, ws, rfl, g1, g2⟩ := v1.list e
      exact ⟨a, ws, rfl, .inl (SqL.of g1), fun l hl => q _ _ ⟨l, ws, rfl, hl, rfl, g2⟩⟩
  · cases h
    cases hv with
    | cons v1 v2 =>
      cases v2
      obtain ⟨a, ws, rfl, g1, g2⟩ := v1.tup e
      exact ⟨a, ws, rfl, .inr g1, fun l hl => q _ _ ⟨l, ws, rfl, hl, rfl, g2⟩⟩
  · cases h
def mRange1 (ms : MA) : MI := fun env => (ms env).bind fun p => (rdAll p.2 p.1).bind fun ds => match ds with
  | [.int j] => if -(2 ^ 62) ≤ j ∧ j < 2 ^ 62 then some ((List.range j.toNat).map fun i => .int (i : Nat), p.2) else none
  | _ => none
theorem iter_range {lo : Int} {n : Nat} {Hk : Hp} : IterOk K Hk (Itr lo n) ((List.range n).map fun i => .int (lo + (i : Nat))) := by
  intro Hk2 H2 _ _ i
  refine ⟨fun d hd => ?_, fun hl => ?_⟩
  · rw [List.getElem?_map] at hd
    obtain ⟨j, h1, rfl⟩ := Option.map_eq_some_iff.mp hd
    obtain ⟨h2, h3⟩ := List.getElem?_eq_some_iff.mp h1
    rw [List.getElem_range] at h3
    subst h3
    rw [List.length_range] at h2
    refine ⟨h2, fun x H' y => ?_⟩
    obtain ⟨rfl, rfl⟩ := y
    exact .inl ⟨rfl, .int _⟩
  · rw [List.length_map, List.length_range] at hl
    exact hl
theorem range1_run {ms : MA} {σ : St} {H : Hp} {R : It → Hp → Prop} (h : tI K (mRange1 ms) σ H R) : iRng1 (tA K ms) σ H R := by
  obtain ⟨B, env, Hk, ds, env', R0, hm, k⟩ := h
  obtain ⟨⟨rs, e1⟩, h1, hm⟩ := Option.bind_eq_some_iff.mp hm
  obtain ⟨es, h2, hm⟩ := Option.bind_eq_some_iff.mp hm
  refine ⟨B, env, Hk, rs, e1, R0, h1, fun vs Hk1 H1 R1 s1 o1 => ?_⟩
  have hv := R1.views o1 h2
  split at hm
  · rename_i j
    split at hm
    · rename_i hz
      cases hm
      cases hv with
      | cons v1 v2 =>
        cases v2
        rw [v1.int]
        refine ⟨j, rfl, hz.1, hz.2, k _ Hk1 H1 R1 s1 ?_⟩
        have := iter_range (K := K) (lo := 0) (n := j.toNat) (Hk := Hk1)
        simpa using this
    · cases hm
  · cases hm
theorem vi_range1 {tg a : Expr} {ms : MA} {p pos : Pos} (hm : X.mg "range" = none) (ha : VA X [a] ms) (hg : Gl X "range" := by rfl) (hs : starEach [a] X.env = [(false, eval a X.env)] := by rfl) : VI X tg (.Call (.Name "range" p) [a] [] pos) (mRange1 ms) := (pi_range1 hg hm ha hs).imp fun _ _ _ => range1_run
def mItL (m : ME) : MI := fun env => (mFrz m env).bind fun p => match p.1 with
  | .dat (.list ds) => some (ds, p.2)
  | _ => none
theorem iter_list {a : Addr} {xs : List V} {ds : List PyData} {Hk : Hp} (h : Hk a = some (.lst xs)) (hd : DvAll K Hk xs ds) : IterOk K Hk (Itl K a) ds := by
  intro Hk2 H2 s2 e2 i
  have hq : SqL K H2 a xs := SqL.of (e2 _ _ (s2 _ _ h))
  refine ⟨fun d hi => ?_, fun hl => ⟨xs, hq, by rw [hd.len]; exact hl⟩⟩
  obtain ⟨v, g1, g2⟩ := hd.get i d hi
  refine ⟨⟨xs, v, hq, g1⟩, fun x H' y => ?_⟩
  obtain ⟨rfl, y⟩ := y
  have := y xs hq
  rw [g1] at this
  cases this
  exact .inl ⟨rfl, dv_mono s2 _ _ g2⟩
theorem itL_run {m : ME} {σ : St} {H : Hp} {R : It → Hp → Prop} (h : tI K (mItL m) σ H R) : iList K (tE K (mFrz m)) σ H R := by
  obtain ⟨B, env, Hk, ds, env', R0, hm, k⟩ := h
  obtain ⟨⟨r, e1⟩, h1, hm⟩ := Option.bind_eq_some_iff.mp hm
  refine ⟨B, env, Hk, r, e1, R0, h1, fun v Hk1 H1 R1 s1 o1 => ?_⟩
  cases r with
  | new c => cases hm
  | slt i => cases hm
  | pv p => cases hm
  | dat d =>
    cases d with
    | list ds =>
      cases hm
      cases o1 with
      | lst g1 g2 => exact ⟨_, rfl, ⟨_, SqL.of (R1.ex _ _ g1)⟩, k _ Hk1 H1 R1 s1 (iter_list g1 g2)⟩
    | _ => cases hm
theorem vi_list {tg e : Expr} {m : ME} (h : VE X e m) : VI X tg e (mItL m) := (pi_list (ve_frz h)).imp fun _ _ _ => itL_run
def mItT (m : ME) : MI := fun env => (mFrz m env).bind fun p => match p.1 with
  | .dat (.tuple ds) => some (ds, p.2)
  | _ => none
theorem iter_tup {a : Addr} {xs : List V} {ds : List PyData} {Hk : Hp} (h : SqT K Hk a xs) (hd : DvAll K Hk xs ds) : IterOk K Hk (Itt K a) ds := by
  intro Hk2 H2 s2 e2 i
  have hq : SqT K H2 a xs := same_tup e2 (same_tup s2 h)
  refine ⟨fun d hi => ?_, fun hl => ⟨xs, hq, by rw [hd.len]; exact hl⟩⟩
  obtain ⟨v, g1, g2⟩ := hd.get i d hi
  refine ⟨⟨xs, v, hq, g1⟩, fun x H' y => ?_⟩
  obtain ⟨rfl, y⟩ := y
  have := y xs hq
  rw [g1] at this
  cases this
  exact .inl ⟨rfl, dv_mono s2 _ _ g2⟩
theorem itT_run {m : ME} {σ : St} {H : Hp} {R : It → Hp → Prop} (h : tI K (mItT m) σ H R) : iTup K (tE K (mFrz m)) σ H R := by
  obtain ⟨B, env, Hk, ds, env', R0, hm, k⟩ := h
  obtain ⟨⟨r, e1⟩, h1, hm⟩ := Option.bind_eq_some_iff.mp hm
  refine ⟨B, env, Hk, r, e1, R0, h1, fun v Hk1 H1 R1 s1 o1 => ?_⟩
  cases r with
  | new c => cases hm
  | slt i => cases hm
  | pv p => cases hm
  | dat d =>
    cases d with
    | tuple ds =>
      cases hm
      cases o1 with
      | tup g1 g2 => exact ⟨_, rfl, ⟨_, same_tup R1.ex g1⟩, k _ Hk1 H1 R1 s1 (iter_tup g1 g2)⟩
    | _ => cases hm
theorem vi_tup {tg e : Expr} {m : ME} (h : VE X e m) : VI X tg e (mItT m) := (pi_tup (ve_frz h)).imp fun _ _ _ => itT_run
def enumD : Nat → List PyData → List PyData
  | _, [] => []
  | i, d :: ds => .tuple [.int (i : Nat), d] :: enumD (i + 1) ds
theorem enumD_len : ∀ (i : Nat) (ds : List PyData), (enumD i ds).length = ds.length
  | _, [] => rfl
  | i, d :: ds => by
    show (enumD (i + 1) ds).length + 1 = _
    rw [enumD_len (i + 1) ds]
    rfl
theorem enumD_get : ∀ (k : Nat) (ds : List PyData) (i : Nat) (d : PyData), (enumD k ds)[i]? = some d → ∃ x, ds[i]? = some x ∧ d = .tuple [.int ((k + i : Nat) : Int), x]
  | _, [], i, d, h => by simp [enumD] at h
  | k, x :: ds, 0, d, h => by
    simp [enumD] at h
    exact ⟨x, rfl, by rw [← h]; simp⟩
  | k, x :: ds, i + 1, d, h => by
    obtain ⟨y, h1, h2⟩ := enumD_get (k + 1) ds i d (by simpa [enumD] using h)
    exact ⟨y, by simpa using h1, by rw [h2]; congr 3; omega⟩
def mEnum (ms : MA) : MI := fun env => (ms env).bind fun p => match p.1 with
  | [.dat (.list ds)] => some (enumD 0 ds, p.2)
  | _ => none
theorem enum_run {ms : MA} {σ : St} {H : Hp} {R : It → Hp → Prop} (h : tI K (mEnum ms) σ H R) : iEnum K (tA K ms) σ H R := by
  obtain ⟨B, env, Hk, ds, env', R0, hm, k⟩ := h
  obtain ⟨⟨rs, e1⟩, h1, hm⟩ := Option.bind_eq_some_iff.mp hm
  refine ⟨B, env, Hk, rs, e1, R0, h1, fun vs Hk1 H1 R1 s1 o1 => ?_⟩
  split at hm
  · rename_i xs he
    cases hm
    have he : rs = [.dat (.list xs)] := he
    subst he
    cases o1 with
    | cons o1 o2 =>
      cases o2
      cases o1 with
      | lst g1 g2 =>
        refine ⟨_, _, rfl, SqL.of (R1.ex _ _ g1), k _ Hk1 H1 R1 s1 ?_⟩
        intro Hk2 H2 s2 e2 i
        refine ⟨fun d hi => ?_, fun hl => ⟨_, SqL.of (e2 _ _ (s2 _ _ g1)), by rw [g2.len]; rw [enumD_len] at hl; exact hl⟩⟩
        obtain ⟨x, q1, rfl⟩ := enumD_get 0 _ i d hi
        obtain ⟨v, q2, q3⟩ := g2.get i x q1
        refine ⟨⟨_, v, SqL.of (e2 _ _ (s2 _ _ g1)), q2⟩, fun y H' z => ?_⟩
        obtain ⟨T, v', rfl, hT, rfl, hx⟩ := z
        have := hx _ (SqL.of (e2 _ _ (s2 _ _ g1)))
        rw [q2] at this
        cases this
        refine .inr ⟨T, _, _, rfl, rfl, hT, rfl, .cons ?_ (.cons (dv_mono s2 _ _ q3) .nil)⟩
        rw [Nat.zero_add]
        exact .int _
  · cases hm
theorem vi_enum {e : Expr} {ms : MA} {p pos tpos : Pos} {elts : List Expr} {kk : Nat} (hm : X.mg "enumerate" = none) (ha : VA X [e] ms) (hg : Gl X "enumerate" := by rfl) (hs : starEach [e] X.env = [(false, eval e X.env)] := by rfl) :
    VI X (.Tuple elts kk tpos) (.Call (.Name "enumerate" p) [e] [] pos) (mEnum ms) := (pi_enum hg hm ha hs).imp fun _ _ _ => enum_run
def zipD : List PyData → List PyData → List PyData
  | x :: xs, y :: ys => .tuple [x, y] :: zipD xs ys
  | _, _ => []
theorem zipD_get : ∀ (xs ys : List PyData) (i : Nat) (d : PyData), (zipD xs ys)[i]? = some d → ∃ x y, xs[i]? = some x ∧ ys[i]? = some y ∧ d = .tuple [x, y]
  | [], _, i, d, h => by simp [zipD] at h
  | _ :: _, [], i, d, h => by simp [zipD] at h
  | x :: xs, y :: ys, 0, d, h => by
    simp [zipD] at h
    exact ⟨x, y, rfl, rfl, h.symm⟩
  | x :: xs, y :: ys, i + 1, d, h => by
    obtain ⟨a, b, h1, h2, h3⟩ := zipD_get xs ys i d (by simpa [zipD] using h)
    exact ⟨a, b, by simpa using h1, by simpa using h2, h3⟩
theorem zipD_len : ∀ (xs ys : List PyData), (zipD xs ys).length = min xs.length ys.length
  | [], _ => by simp [zipD]
  | _ :: _, [] => by simp [zipD]
  | x :: xs, y :: ys => by
    show (zipD xs ys).length + 1 = _
    rw [zipD_len xs ys, List.length_cons, List.length_cons]
    omega
end
end Cm
namespace Cm
open PySem L2
def lstAt (env : Sl) (i : Nat) : Option (Slot × List PyData) := match env[i]? with
  | some (.own (.lst ds)) => some (.own (.lst ds), ds)
  | some (.io k (.lst ds)) => some (.io k (.lst ds), ds)
  | _ => none
section
variable {X : Cx} {K : PySem.W.Frag} {B : Fb} {env : Sl} {σ : St} {Hk : Kn} {H : Hp}
theorem Rel.lstAt (R : Rel K B env σ Hk H) {i : Nat} {s : Slot} {ds : List PyData} (h : Cm.lstAt env i = some (s, ds)) : ∃ a vs, env[i]? = some s ∧ s.mut ∧ σ[i]? = some (some (V.ref a)) ∧ H a = some (.lst vs) ∧ DvAll K Hk vs ds := by
  unfold Cm.lstAt at h
  split at h
  · rename_i ds' e
    cases h
    obtain ⟨o, g1, a, rfl, q1, q2, vs, q3, q4⟩ := R.slot i _ e
    exact ⟨a, vs, e, trivial, g1, q3, q4⟩
  · rename_i k ds' e
    cases h
    obtain ⟨o, g1, a, rfl, q1, q2, vs, q3, q4⟩ := R.slot i _ e
    exact ⟨a, vs, e, trivial, g1, q3, q4⟩
  · cases h
def MutD (K : PySem.W.Frag) (r : V → List V → Hp → VK → Prop) (f : List PyData → List PyData → Option (List PyData × PyData)) : Prop := ∀ (Hk H : Hp) (l : Addr) (vs ws : List V) (ds es ds' : List PyData) (ret : PyData) (Q : VK), Same Hk H → H l = some (.lst vs) → DvAll K Hk vs ds → DvAll K Hk ws es → f ds es = some (ds', ret) →
  (∀ vs' v, DvAll K Hk vs' ds' → Dv K Hk v ret → Q v (upd H l (.lst vs'))) → r (.ref l) ws H Q
def mMut (i : Nat) (f : List PyData → List PyData → Option (List PyData × PyData)) (ms : MA) : ME := fun env => (lstAt env i).bind fun _ => (ms env).bind fun p => (dats p.1).bind fun es => (lstAt p.2 i).bind fun q => (f q.2 es).map fun z => (.dat z.2, p.2.set i (q.1.put (.lst z.1)))
theorem mut_run {i : Nat} {r : V → List V → Hp → VK → Prop} {f : List PyData → List PyData → Option (List PyData × PyData)} {ms : MA} (hf : MutD K r f) {Q : VK} (h : tE K (mMut i f ms) σ H Q) : tBM K "list" r (tVar i) (tA K ms) σ H Q := by
  obtain ⟨B, env, Hk, res, env', R, hm, k⟩ := h
  obtain ⟨⟨s0, ds0⟩, h0, hm⟩ := Option.bind_eq_some_iff.mp hm
  obtain ⟨⟨rs, e1⟩, h1, hm⟩ := Option.bind_eq_some_iff.mp hm
  obtain ⟨es, h2, hm⟩ := Option.bind_eq_some_iff.mp hm
  obtain ⟨⟨s, ds⟩, h3, hm⟩ := Option.bind_eq_some_iff.mp hm
  obtain ⟨⟨ds', ret⟩, h4, hm⟩ := Option.map_eq_some_iff.mp hm
  cases hm
  obtain ⟨a, vs0, g1, g2, g3, g4, g5⟩ := R.lstAt h0
  refine ⟨_, g3, .inl ⟨rfl, vs0, SqL.of g4⟩, ?_⟩
  refine ⟨B, env, Hk, rs, e1, R, h1, fun ws Hk1 H1 R1 s1 o1 => ?_⟩
  obtain ⟨a', vs, q1, q2, q3, q4, q5⟩ := R1.lstAt h3
  rw [g3] at q3
  cases q3
  refine hf Hk1 H1 a vs ws ds es ds' ret Q R1.ex q4 q5 (o1.dats h2) h4 fun vs' v d1 d2 => ?_
  exact k v Hk1 _ (R1.change q1 q2 g3 ⟨vs', upd_same, d1⟩) s1 d2
theorem ve_mut {i : Nat} {x name : Str} {id : String} {r : V → List V → Hp → VK → Prop} {f : List PyData → List PyData → Option (List PyData × PyData)} {ms : MA} {e : Expr} {es : List Expr} {p apos cpos : Pos} (slot : PySem.Slot "list" name id) (hty : typeOf (.builtin id) = pure (.type "method_descriptor")) (hm : MtR X id r) (hf : MutD X.K r f) (ha : VA X (e :: es) ms)
    (hN : X.N[i]? = some x := by rfl) (hv : Vis X.env.scope x := by first | exact Or.inl rfl | exact Or.inr (Or.inl rfl) | exact Or.inr (Or.inr rfl)) (hd : (x == ("__debug__" : Str)) = false := by decide) (hcd : (x == ("__classdict__" : Str)) = false := by decide)
    (hbase : attributeBase (.Name x p) name X.env (eval (.Name x p) X.env) = eval (.Name x p) X.env := by rfl)
    (hfew : ((backTo cpos (starEach (e :: es) X.env)).all (fun x => !x.1) && (backToKw cpos (keywordEach [] X.env)).all (fun x => x.1.isSome)
      && decide ((e :: es).length + ([] : List Keyword).length + (if ([] : List Keyword).isEmpty then 0 else 1) < 30)) = true := by rfl)
    (hline : (apos.endLine == cpos.line) = true := by rfl) (hs : starEach (e :: es) X.env = (false, eval e X.env) :: starEach es X.env := by rfl) (hplain : (backTo cpos (starEach es X.env)).any (·.1) = false := by rfl) :
    VE X (.Call (.Attribute (.Name x p) name apos) (e :: es) [] cpos) (mMut i f ms) :=
  (pe_bm PySem.F.plainAttrs_list slot hty hm (pe_var hN hv hd hcd) ha hbase hfew hline hs hplain).imp fun _ _ _ => mut_run hf
def fApp : List PyData → List PyData → Option (List PyData × PyData)
  | ds, [d] => if ds.length < 100000 then some (ds ++ [d], .none) else none
  | _, _ => none
theorem md_append : MutD K rAppend fApp := by
  intro Hk H l vs ws ds es ds' ret Q e hl hd he h q
  unfold fApp at h
  split at h
  · split at h
    · rename_i hz
      cases h
      cases he with
      | cons h1 h2 =>
        cases h2
        exact ⟨l, vs, _, rfl, rfl, hl, by rw [hd.len]; exact Nat.lt_of_lt_of_le hz (by decide), q _ _ (hd.append (.cons h1 .nil)) .non⟩
    · cases h
  · cases h
def mgSub (i : Nat) (mi : ME) : MG := fun d env => (lstAt env i).bind fun _ => (mi env).bind fun p => match p.1 with
  | .dat (.int k) => (lstAt p.2 i).bind fun q => (ixN q.2.length k).map fun j => p.2.set i (q.1.put (.lst (q.2.set j d)))
  | _ => none
theorem gsub_run {i : Nat} {mi : ME} {v : V} {Q : St → Hp → Prop} (h : tG K [] (mgSub i mi) v σ H Q) : gSub (tVar i) (tE K mi) rSetL v σ H Q := by
  obtain ⟨B, env, Hk, d, env', R, hd, hm, k⟩ := h
  obtain ⟨⟨s0, ds0⟩, h0, hm⟩ := Option.bind_eq_some_iff.mp hm
  obtain ⟨⟨r, e1⟩, h1, hm⟩ := Option.bind_eq_some_iff.mp hm
  obtain ⟨a, vs0, g1, g2, g3, g4, g5⟩ := R.lstAt h0
  refine ⟨_, g3, B, env, Hk, r, e1, R, h1, fun w Hk1 H1 R1 s1 o1 => ?_⟩
  cases r with
  | new c => cases hm
  | slt i => cases hm
  | pv p => cases hm
  | dat dd =>
    cases dd with
    | int ki =>
      obtain ⟨⟨s, ds⟩, h2, hm⟩ := Option.bind_eq_some_iff.mp hm
      obtain ⟨j, h3, hm⟩ := Option.map_eq_some_iff.mp hm
      cases hm
      cases o1
      obtain ⟨a', vs, q1, q2, q3, q4, q5⟩ := R1.lstAt h2
      rw [g3] at q3
      cases q3
      refine ⟨a, vs, ki, j, rfl, rfl, q4, by rw [q5.len]; exact h3, ?_⟩
      exact k σ Hk1 _ (R1.change q1 q2 g3 ⟨_, upd_same, q5.set (dv_mono s1 _ _ hd) j⟩) s1 (fun _ _ => rfl) rfl
    | _ => cases hm
theorem vg_sub {i : Nat} {x : Str} {mi : ME} {ix : Expr} {p pos : Pos} (hi : VE X ix mi) (hN : X.N[i]? = some x := by rfl) (hv : Vis X.env.scope x := by first | exact Or.inl rfl | exact Or.inr (Or.inl rfl) | exact Or.inr (Or.inr rfl)) (hd : (x == ("__debug__" : Str)) = false := by decide) (hcd : (x == ("__classdict__" : Str)) = false := by decide)
    (ha : ∀ v, assign (.Subscript (.Name x p) ix pos) X.env v = (do
      let ov ← holding [v] (eval (.Name x p) X.env)
      let iv ← holding [v, ov] (eval ix X.env)
      standAt pos
      holding [v, ov, iv] (setItem ov iv v)
      release [v, ov, iv] []) := by intro _; rfl) : VG X (.Subscript (.Name x p) ix pos) [] (mgSub i mi) := (pg_sub (pe_var hN hv hd hcd) hi set_list ha).imp fun _ _ _ _ => gsub_run
def mAsg (m : ME) (g : MG) : MS := fun env => (mFrz m env).bind fun p => match p.1 with
  | .dat d => (g d p.2).map fun e => (.nx, e)
  | _ => none
theorem asg_run {m : ME} {g : MG} {js : List Nat} {W : WX} {D : Ends} (h : tS K W (mAsg m g) D σ H) : tAsg (tE K (mFrz m)) (tG K js g) D σ H := by
  obtain ⟨B, env, Hk, f, env', R, hm, k⟩ := h
  obtain ⟨⟨r, e1⟩, h1, hm⟩ := Option.bind_eq_some_iff.mp hm
  refine ⟨B, env, Hk, r, e1, R, h1, fun v Hk1 H1 R1 s1 o1 => ?_⟩
  cases r with
  | new c => cases hm
  | slt i => cases hm
  | pv p => cases hm
  | dat d =>
    obtain ⟨e2, h2, hm⟩ := Option.map_eq_some_iff.mp hm
    cases hm
    exact ⟨B, e1, Hk1, d, _, R1, o1, h2, fun σ' Hk2 H2 R2 s2 _ _ => k σ' Hk2 H2 R2 (s1.trans s2)⟩
theorem vs_asg {tg e : Expr} {m : ME} {g : MG} {js : List Nat} {pos : Pos} (he : VE X e m) (hg : VG X tg js g) (hs : swapsWithSole [tg] e pos.line X.env = pure false := by rfl) (hw : swappedStores [tg] e X.env = pure none := by rfl)
    (h1 : (assignEach [tg] X.env).map (·.2) = [assign tg X.env] := by rfl) : VS X (.Assign [tg] e pos) (mAsg m g) := fun W _ => (ps_asg (ve_frz he) hg hs hw h1).imp fun _ _ _ => asg_run
def mAugI (i : Nat) (f : Int → Int → Int) (m : ME) : MS := fun env => match env[i]? with
  | some (.val (.int a)) => (m env).bind fun p => match p.1 with
    | .dat (.int b) => some (.nx, p.2.set i (.val (.int (f a b))))
    | _ => none
  | _ => none
theorem augI_run {i : Nat} {f : Int → Int → Int} {m : ME} {W : WX} {D : Ends} (h : tS K W (mAugI i f m) D σ H) : tAug i (tE K m) (ipI f) D σ H := by
  obtain ⟨B, env, Hk, fl, env', R, hm, k⟩ := h
  unfold mAugI at hm
  split at hm
  · rename_i a ha
    obtain ⟨⟨r, e1⟩, h1, hm⟩ := Option.bind_eq_some_iff.mp hm
    obtain ⟨o, g1, v, rfl, g2⟩ := R.slot i _ ha
    cases g2
    refine ⟨_, g1, B, env, Hk, r, e1, R, h1, fun w Hk1 H1 R1 s1 o1 => ?_⟩
    cases r with
    | new c => cases hm
    | slt i => cases hm
    | pv p => cases hm
    | dat d =>
      cases d with
      | int b =>
        cases hm
        cases o1
        exact ⟨a, b, rfl, rfl, k _ Hk1 H1 (R1.setVal (.int _)) s1⟩
      | _ => cases hm
  · cases hm
theorem vs_augI {i : Nat} {f : Int → Int → Int} {x : Str} {e : Expr} {m : ME} {op : Operator} {pos' pos : Pos} (ho : PIp X op (ipI f)) (hN : X.N.Nodup) (he : VE X e m) (hi : X.N[i]? = some x := by rfl) (hx : Loc X.env.scope x := by first | exact Or.inl rfl | exact Or.inr rfl) (hf : X.fn x = true ∨ X.env.scope.names.lookup x = some .local := by first | exact .inl rfl | exact .inr rfl | assumption) :
    VS X (.AugAssign (.Name x pos') op e pos) (mAugI i f m) := fun W _ => (ps_aug hN hi hx he ho hf).imp fun _ _ _ => augI_run
def tyN : PyData → String
  | .none => "NoneType"
  | .bool _ => "bool"
  | .int _ => "int"
  | .str _ => "str"
  | .list _ => "list"
  | .tuple _ => "tuple"
  | .dict _ => "dict"
theorem tyN_x {v : V} {d : PyData} (h : Dv K H v d) : TyX K H v (.type (tyN d)) := by
  cases h with
  | non => exact .base .non
  | bl b => exact .base (.bl b)
  | int b => exact .base (.int b)
  | str b => exact .base (.str b)
  | lst h1 h2 => exact .base (.lst h1)
  | tup h1 h2 =>
    rcases h1 with (h1 | ⟨o, h1⟩) | ⟨o, its, n, h1, h3, _⟩
    · exact .base (.tup h1)
    · exact .fTuple h1
    · exact .kTuple h1 h3
  | dct h1 h2 =>
    rcases h1 with h1 | ⟨o, h1⟩
    · exact .base (.dK h1)
    · exact .fDict h1
def mIsi (T : String) (m : ME) : ME := fun env => (m env).bind fun p => (rdv p.2 (stab p.1)).bind fun d => (kitB (tyN d) T).map fun b => (.dat (.bool b), p.2)
theorem isi_run {T : String} {m : ME} {Q : VK} (h : tE K (mIsi T m) σ H Q) : tCB (rIsi K) (tCons (tE K m) (tCons (tC (.ty T)) tNil)) σ H Q := by
  obtain ⟨B, env, Hk, res, env', R, hm, k⟩ := h
  obtain ⟨⟨r, e1⟩, h1, hm⟩ := Option.bind_eq_some_iff.mp hm
  obtain ⟨d, h2, hm⟩ := Option.bind_eq_some_iff.mp hm
  obtain ⟨b, h3, hm⟩ := Option.map_eq_some_iff.mp hm
  cases hm
  refine ⟨B, env, Hk, r, e1, R, h1, fun v Hk1 H1 R1 s1 o1 => ?_⟩
  obtain ⟨Hk1', R1', s1', o1'⟩ := R1.stab o1
  have vw := (R1'.view o1' h2).dv R1'.ex
  exact ⟨v, .ty T, _, _, b, rfl, .ty T, tyN_x vw, kit_ty h3, k _ Hk1' H1 R1' (s1.trans s1') (.bl b)⟩
theorem ve_isi {T : Str} {id : String} {e : Expr} {m : ME} {p p2 pos : Pos} (he : VE X e m) (hm : X.mg "isinstance" = none) (hm2 : X.mg T = none) (hv : bootBuiltins T = some (.type id)) (hg : Gl X "isinstance" := by rfl) (hg2 : Gl X T := by rfl) (hn : T ≠ "__name__" := by decide) (hdb : (T == ("__debug__" : Str)) = false := by decide) (hb : bootBuiltins "isinstance" = some (.builtin "isinstance") := by decide +kernel)
    (hs : starEach (e :: [.Name T p2]) X.env = (false, eval e X.env) :: starEach [.Name T p2] X.env := by rfl) (hs2 : starEach [.Name T p2] X.env = (false, eval (.Name T p2) X.env) :: starEach [] X.env := by rfl) (hpl : (backTo pos (starEach [.Name T p2] X.env)).any (·.1) = false := by rfl) :
    VE X (.Call (.Name "isinstance" p) [e, .Name T p2] [] pos) (mIsi id m) :=
  (pe_callB call_isi hg hm hb (pa_cons he (pa_cons (pe_bltn (v := .ty id) hg2 hm2 hv rfl hn hdb) pa_nil hs2) hs) (by decide) (by decide) hs hpl).imp fun _ _ _ => isi_run
def mIsi2 (S T : String) (m : ME) : ME := fun env => (m env).bind fun p => (rdv p.2 (stab p.1)).bind fun d => (kitB (tyN d) S).bind fun b => (kitB (tyN d) T).map fun c => (.dat (.bool (b || c)), p.2)
theorem isi2_run {S T : String} {m : ME} {Q : VK} (h : tE K (mIsi2 S T m) σ H Q) : tCB (rIsiT K) (tCons (tE K m) (tCons (tTup (tCons (tC (.ty S)) (tCons (tC (.ty T)) tNil))) tNil)) σ H Q := by
  obtain ⟨B, env, Hk, res, env', R, hm, k⟩ := h
  obtain ⟨⟨r, e1⟩, h1, hm⟩ := Option.bind_eq_some_iff.mp hm
  obtain ⟨d, h2, hm⟩ := Option.bind_eq_some_iff.mp hm
  obtain ⟨b, h3, hm⟩ := Option.bind_eq_some_iff.mp hm
  obtain ⟨c, h4, hm⟩ := Option.map_eq_some_iff.mp hm
  cases hm
  refine ⟨B, env, Hk, r, e1, R, h1, fun v Hk1 H1 R1 s1 o1 => ?_⟩
  obtain ⟨Hk1', R1', s1', o1'⟩ := R1.stab o1
  have vw := (R1'.view o1' h2).dv R1'.ex
  refine ⟨by show 2 ≤ sizeLine; decide, fun q hq => ?_⟩
  have s2 : Same H1 (upd H1 q (.tup [.ty S, .ty T])) := same_upd hq
  refine ⟨v, q, _, _, [.type S, .type T], b || c, rfl, upd_same, .cons (.ty S) (.cons (.ty T) .nil), tyN_x (dv_mono s2 _ _ vw), ?_, k _ Hk1' _ (R1'.laid hq) (s1.trans s1') (.bl _)⟩
  refine kitAny_cons (kit_ty h3) (fun hb => kitAny_cons (kit_ty h4) (fun hc => ?_) fun hc => by rw [hc, Bool.or_true]) fun hb => by rw [hb, Bool.true_or]
  rw [hb, hc]
  exact kitAny_nil
theorem ve_isi2 {S T : Str} {id1 id2 : String} {e : Expr} {m : ME} {p p1 p2 p3 pos : Pos} {kk} (he : VE X e m) (hm : X.mg "isinstance" = none) (hm1 : X.mg S = none) (hv1 : bootBuiltins S = some (.type id1)) (hm2 : X.mg T = none) (hv2 : bootBuiltins T = some (.type id2)) (hg : Gl X "isinstance" := by rfl) (hg1 : Gl X S := by rfl) (hg2 : Gl X T := by rfl) (hn1 : S ≠ "__name__" := by decide) (hdb1 : (S == ("__debug__" : Str)) = false := by decide) (hn2 : T ≠ "__name__" := by decide) (hdb2 : (T == ("__debug__" : Str)) = false := by decide) (hb : bootBuiltins "isinstance" = some (.builtin "isinstance") := by decide +kernel)
    (hs : starEach (e :: [.Tuple [.Name S p1, .Name T p2] kk p3]) X.env = (false, eval e X.env) :: starEach [.Tuple [.Name S p1, .Name T p2] kk p3] X.env := by rfl) (hs2 : starEach [.Tuple [.Name S p1, .Name T p2] kk p3] X.env = (false, eval (.Tuple [.Name S p1, .Name T p2] kk p3) X.env) :: starEach [] X.env := by rfl)
    (hs3 : starEach [.Name S p1, .Name T p2] X.env = (false, eval (.Name S p1) X.env) :: starEach [.Name T p2] X.env := by rfl) (hs4 : starEach [.Name T p2] X.env = (false, eval (.Name T p2) X.env) :: starEach [] X.env := by rfl) (hpl : (backTo pos (starEach [.Tuple [.Name S p1, .Name T p2] kk p3] X.env)).any (·.1) = false := by rfl) :
    VE X (.Call (.Name "isinstance" p) [e, .Tuple [.Name S p1, .Name T p2] kk p3] [] pos) (mIsi2 id1 id2 m) :=
  (pe_callB call_isiT hg hm hb (pa_cons he (pa_cons (pe_tup (pa_cons (pe_bltn (v := .ty id1) hg1 hm1 hv1 rfl hn1 hdb1) (pa_cons (pe_bltn (v := .ty id2) hg2 hm2 hv2 rfl hn2 hdb2) pa_nil hs4) hs3)) pa_nil hs2) hs) (by decide) (by decide) hs hpl).imp fun _ _ _ => isi2_run
end
end Cm
namespace Cm
open PySem L2
section
variable {X : Cx} {K : PySem.W.Frag} {B : Fb} {env : Sl} {σ : St} {Hk : Kn} {H : Hp}
theorem ve_bm {T : String} {name : Str} {id : String} {r : V → List V → Hp → VK → Prop} {g : PyData → List PyData → Option Res} {o e : Expr} {es : List Expr} {m : ME} {ms : MA} {apos cpos : Pos} (pa : PySem.PlainAttrs T) (slot : PySem.Slot T name id) (hty : typeOf (.builtin id) = pure (.type "method_descriptor")) (hm : MtR X id r) (hg : MtD X.K r g) (ho : VE X o m) (ha : VA X (e :: es) ms)
    (hbase : attributeBase o name X.env (eval o X.env) = eval o X.env := by rfl)
    (hfew : ((backTo cpos (starEach (e :: es) X.env)).all (fun x => !x.1) && (backToKw cpos (keywordEach [] X.env)).all (fun x => x.1.isSome)
      && decide ((e :: es).length + ([] : List Keyword).length + (if ([] : List Keyword).isEmpty then 0 else 1) < 30)) = true := by rfl)
    (hline : (apos.endLine == cpos.line) = true := by rfl) (hs : starEach (e :: es) X.env = (false, eval e X.env) :: starEach es X.env := by rfl) (hplain : (backTo cpos (starEach es X.env)).any (·.1) = false := by rfl) :
    VE X (.Call (.Attribute o name apos) (e :: es) [] cpos) (mBM T g m ms) :=
  (pe_bm pa slot hty hm ho ha hbase hfew hline hs hplain).imp fun _ _ _ => bm_run hg
theorem ok_no {P : Program} {w : World} {mg : Str → Option Value} {base : Heap} {k : Nat} {f : Addr} {fd : FuncData} {ps : List Str} : FnOk P w K mg base CX0 k f fd ps (spF K fun _ => none) :=
  ⟨fun vs H Q E ⟨_, _, _, _, _, _, z, _⟩ => (nomatch z), fun A outer s H args us vs Q E _ _ _ _ ⟨_, _, _, _, _, _, z, _⟩ => nomatch z⟩
end
end Cm
namespace Cm
open PySem L2
section
variable {X : Cx} {K : PySem.W.Frag} {B : Fb} {env : Sl} {σ : St} {Hk H : Hp}
def vOf : PyData → V
  | .none => .non
  | .bool b => .bl b
  | .int i => .int i
  | .str s => .str s
  | _ => .non
theorem flat_vOf {d : PyData} {v : V} (h : flatD d = true) (q : Dv K Hk v d) : v = vOf d ∧ flatV v = true := by
  cases q with
  | non => exact ⟨rfl, rfl⟩
  | bl b => exact ⟨rfl, rfl⟩
  | int i => exact ⟨rfl, rfl⟩
  | str s => exact ⟨rfl, rfl⟩
  | _ => cases h
def inD (x : PyData) (ds : List PyData) : Bool := inV (vOf x) (ds.map vOf)
theorem View.flat {d : PyData} {v : V} (h : flatD d = true) (q : View K Hk H v d) : v = vOf d ∧ flatV v = true := by
  rcases q with q | ⟨a, c, rfl, rfl, _⟩
  · exact flat_vOf h q
  · cases c <;> cases h
end
end Cm
namespace Cm
open PySem PySem.Spec PyProof.Rows L2
section
variable {X : Cx} {K : PySem.W.Frag} {B : Fb} {env : Sl} {σ : L2.St} {Hk H : Hp}
end
end Cm
namespace Cm
open PySem L2
def spLaw (K : PySem.W.Frag) : Sp := fun vs H Q _ => ∃ (a : Addr) (ns : List Int), vs = [.ref a] ∧ SqL K H a (ns.map V.int) ∧ ns.length ≤ 63 ∧ ∀ H', Q (.bl true) H'
theorem law_imp {K : PySem.W.Frag} {fm : FM} (h : ∀ ns : List Int, ns.length ≤ 63 → ∃ outs, fm [.scr ns] = some (.dat (.bool true), outs)) (vs : List V) (H : Hp) (Q : VK) (E : XK) (q : spLaw K vs H Q E) : spF K fm vs H Q E := by
  obtain ⟨a, ns, rfl, hS, hl, k⟩ := q
  obtain ⟨outs, e⟩ := h ns hl
  refine ⟨H, [.scr ns], _, outs, .refl _, ⟨rfl, fun i s v e1 e2 => ?_, fun i k c e1 => ?_, fun i j k l c c' a e1 => ?_⟩, e, fun v Hk' H' p => ?_⟩
  · cases i with
    | zero =>
      simp at e1 e2
      subst e1 e2
      exact ⟨a, rfl, hS⟩
    | succ i => simp at e1
  · cases i with
    | zero => simp at e1
    | succ i => simp at e1
  · cases i with
    | zero => simp at e1
    | succ i => simp at e1
  · have hr : Dv K Hk' v (.bool true) := p.res
    cases hr
    exact k H'
end Cm
namespace Cm
open PySem L2
theorem Rel.wipe1 {K : PySem.W.Frag} {B : Fb} {env : Sl} {σ : St} {Hk : Kn} {H : Hp} (R : Rel K B env σ Hk H) (i : Nat) : Rel K B (env.set i .no) σ Hk H := by
  cases h : σ[i]? with
  | none =>
    have h1 := List.getElem?_eq_none_iff.mp h
    rw [List.set_eq_of_length_le (by rw [R.len]; exact h1)]
    exact R
  | some o =>
    have h2 : σ.set i o = σ := by
      apply List.ext_getElem?
      intro j
      by_cases e : i = j
      · subst e
        rw [List.getElem?_set_self (List.getElem?_eq_some_iff.mp h).1, h]
      · rw [List.getElem?_set_ne e]
    have R2 := R.setNo (i := i) (o := o)
    rw [h2] at R2
    exact R2
theorem Rel.wipe0 {K : PySem.W.Frag} {B : Fb} {env : Sl} {σ : St} {Hk : Kn} {H : Hp} (R : Rel K B env σ Hk H) : ∀ vs : List Nat, Rel K B (wipeS env vs) σ Hk H
  | [] => R
  | v :: vs => (Rel.wipe0 R vs).wipe1 v
def aft (ws : List Nat) : Fl × Sl → Fl × Sl
  | (.rt r, e) => (.rt r, e)
  | (f, e) => (f, wipeS e ws)
def mAft (ws : List Nat) (m : MS) : MS := fun env => (m env).map (aft ws)
def mBef (ws : List Nat) (m : MS) : MS := fun env => m (wipeS env ws)
def retR (ws : List Nat) : Res × Sl → Option Res
  | (.dat d, _) => some (.dat d)
  | (.new c, _) => some (.new c)
  | (.pv p, _) => some (.pv p)
  | (.slt i, e) => match e[i]? with
    | some (.val d) => some (.dat d)
    | some (.own c) => if ws.contains i = true then some (.new c) else none
    | _ => none
def mRetW (ws : List Nat) (m : ME) : MS := fun env => (m env).bind fun p => (retR ws p).map fun r => (.rt r, wipeS p.2 ws)
section
variable {X : Cx} {K : PySem.W.Frag} {m n : MS} {me : ME} {ws : List Nat} {st : Stmt} {ss : List Stmt} {e : Expr} {pos : Pos}
theorem aft_run {W : WX} {D : Ends} {σ : St} {H : Hp} (h : tS K W (mAft ws m) D σ H) : tS K W m D σ H := by
  obtain ⟨B, env, Hk, f, env', R, hm, k⟩ := h
  obtain ⟨⟨f1, e1⟩, h1, hm⟩ := Option.map_eq_some_iff.mp hm
  refine ⟨B, env, Hk, f1, e1, R, h1, fun σ1 Hk1 H1 R1 s1 => ?_⟩
  cases f1 with
  | nx => cases hm; exact k σ1 Hk1 H1 (R1.wipe0 ws) s1
  | bk => cases hm; exact k σ1 Hk1 H1 (R1.wipe0 ws) s1
  | ct => cases hm; exact k σ1 Hk1 H1 (R1.wipe0 ws) s1
  | rt r => cases hm; exact k σ1 Hk1 H1 R1 s1
  | ex C fs => cases hm; exact k σ1 Hk1 H1 (R1.wipe0 ws) s1
theorem bef_run {W : WX} {D : Ends} {σ : St} {H : Hp} (h : tS K W (mBef ws m) D σ H) : tS K W m D σ H := by
  obtain ⟨B, env, Hk, f, env', R, hm, k⟩ := h
  exact ⟨B, wipeS env ws, Hk, f, env', R.wipe0 ws, hm, k⟩
theorem vs_aft (h : VSs X ss m) : VSs X ss (mAft ws m) := h.imp fun _ _ _ _ => aft_run
theorem vs_bef (h : VS X st m) : VS X st (mBef ws m) := h.imp fun _ _ _ _ => bef_run
theorem wipeS_get {env : Sl} {i : Nat} {s : Slot} : ∀ {vs : List Nat}, (wipeS env vs)[i]? = some s → s = .no ∨ (i ∉ vs ∧ env[i]? = some s)
  | [], h => .inr ⟨by simp, h⟩
  | v :: vs, h => by
    rcases set_get (show ((wipeS env vs).set v .no)[i]? = some s from h) with ⟨_, z⟩ | ⟨ne, z⟩
    · exact .inl z
    · rcases wipeS_get z with q | ⟨q1, q2⟩
      · exact .inl q
      · refine .inr ⟨?_, q2⟩
        intro hm
        rcases List.mem_cons.mp hm with q | q
        · exact ne q
        · exact q1 q
theorem retW_run {W : WX} {D : Ends} {σ : St} {H : Hp} (h : tS K W (mRetW ws me) D σ H) : tRet (tE K me) D σ H := by
  obtain ⟨B, env, Hk, f, env', R, hm, k⟩ := h
  obtain ⟨⟨r1, e1⟩, h1, hm⟩ := Option.bind_eq_some_iff.mp hm
  obtain ⟨r2, h2, hm⟩ := Option.map_eq_some_iff.mp hm
  cases hm
  refine ⟨B, env, Hk, r1, e1, R, h1, fun v Hk1 H1 R1 s1 o1 => ?_⟩
  refine k σ Hk1 H1 (R1.wipe0 ws) s1 v ?_
  cases r1 with
  | dat d =>
    cases h2
    exact o1
  | new c =>
    cases h2
    obtain ⟨a, e, q1, q2, q3, q5, q4⟩ := o1
    refine ⟨a, e, q1, q2, q3, q5, fun j s hj hm => ?_⟩
    rcases wipeS_get hj with z | ⟨_, z⟩
    · subst z; cases hm
    · exact q4 j s z hm
  | pv p =>
    cases h2
    exact o1
  | slt i =>
    have o1 : σ[i]? = some (some v) := o1
    simp only [retR] at h2
    split at h2
    · rename_i d q
      cases h2
      obtain ⟨o, g1, v', rfl, g2⟩ := R1.slot i _ q
      rw [o1] at g1
      cases g1
      exact g2
    · rename_i c q
      split at h2
      · rename_i hc
        cases h2
        obtain ⟨o, g1, a, rfl, g2, g3, g4⟩ := R1.slot i _ q
        rw [o1] at g1
        cases g1
        refine ⟨a, rfl, g2, g3, g4, fun n => R1.psep i _ a n q trivial o1, fun j s hj hm hs => ?_⟩
        rcases wipeS_get hj with z | ⟨z1, z⟩
        · subst z; cases hm
        · have := R1.sep j i s _ a z q hm trivial hs o1
          subst this
          exact z1 (by simpa using hc)
      · cases h2
    · cases h2
theorem vs_retW (he : VE X e me) : VS X (.Return (some e) pos) (mRetW ws me) := fun W _ => (ps_ret he).imp fun _ _ _ => retW_run
end
end Cm
namespace Cm
open PySem L2
def bnd {α β γ : Type} (x : Option (α × β)) (K : α → β → Option γ) : Option γ := x.bind fun p => K p.1 p.2
section
variable {β γ δ : Type} {env e e1 e2 : Sl} {R : Option β} {i j : Nat} {d dx dy : PyData} {ds es : List PyData} {m ma mb mc : ME} {ms : MA} {t u : MT} {r r1 r2 : Res} {rs : List Res}
theorem c_cal {α τ : Type} {X : Option α} {Y : Option τ} {out : τ → α} {K : α → Option β} {k : τ → Option γ} {h : γ → Option β} (q : X = Y.map out) (p : ∀ z, K (out z) = (k z).bind h) : X.bind K = (Y.bind k).bind h := by
  subst q
  cases Y with
  | none => rfl
  | some z => exact p z
theorem c_pur {α : Type} {X : Option α} {v : α} {K : α → Option β} (q : X = some v) (p : K v = R) : X.bind K = R := by
  subst q
  exact p
theorem c_cal2 {α α' τ : Type} {X : Option (α × α')} {Y : Option τ} {out : τ → α × α'} {K : α → α' → Option β} {k : τ → Option γ} {h : γ → Option β} (q : X = Y.map out) (p : ∀ z, K (out z).1 (out z).2 = (k z).bind h) : bnd X K = (Y.bind k).bind h := c_cal q p
theorem c_ite {α α' : Type} {c : Bool} {a b : Option (α × α')} {K : α → α' → Option β} {A B : Option γ} {h : γ → Option β} (p : bnd a K = A.bind h) (q : bnd b K = B.bind h) : bnd (if c = true then a else b) K = (if c = true then A else B).bind h := by
  cases c
  · exact q
  · exact p
theorem c_ifJ {α α' τ : Type} {c : Bool} {a b : Option (α × α')} {K : α → α' → Option β} {A B : Option τ} {k : τ → Option γ} {h : γ → Option β} (out : τ → α × α')
    (p : bnd a (fun x y => some (x, y)) = A.bind (fun z => some (out z))) (q : bnd b (fun x y => some (x, y)) = B.bind (fun z => some (out z))) (w : ∀ z, K (out z).1 (out z).2 = (k z).bind h) : bnd (if c = true then a else b) K = ((if c = true then A else B).bind k).bind h := by
  have f : ∀ {x : Option (α × α')} {Z : Option τ}, bnd x (fun x y => some (x, y)) = Z.bind (fun z => some (out z)) → bnd x K = (Z.bind k).bind h := fun {x Z} g => by
    have : x = Z.map out := by
      cases x with
      | none =>
        cases Z with
        | none => rfl
        | some z => cases g
      | some p =>
        cases Z with
        | none => cases g
        | some z => exact g
    subst this
    cases Z with
    | none => rfl
    | some z => exact w z
  cases c
  · exact f q
  · exact f p
theorem c_tot {α α' : Type} {X : Option (α × α')} {v : α} {v' : α'} (h : bnd X (fun x y => some (x, y)) = some (v, v')) : X = some (v, v') := by
  cases X with
  | none => cases h
  | some p => exact h
theorem c_map {α α' τ : Type} {X : Option (α × α')} {Y : Option τ} {out : τ → α × α'} (h : bnd X (fun x y => some (x, y)) = Y.bind fun z => some (out z)) : X = Y.map out := by
  cases X with
  | none =>
    cases Y with
    | none => rfl
    | some z => cases h
  | some p =>
    cases Y with
    | none => cases h
    | some z => exact h
section
variable {K : Res → Sl → Option β}
theorem c_nameV (h : env[i]? = some (.val d)) (k : K (.dat d) env = R) : bnd (mName i env) K = R := by
  unfold mName; rw [h]; exact k
theorem c_nameO {c : Cell} (h : env[i]? = some (.own c)) (k : K (.slt i) env = R) : bnd (mName i env) K = R := by
  unfold mName; rw [h]; exact k
theorem c_nameI {n : Nat} {c : Cell} (h : env[i]? = some (.io n c)) (k : K (.slt i) env = R) : bnd (mName i env) K = R := by
  unfold mName; rw [h]; exact k
theorem c_nameS {ns : List Int} (h : env[i]? = some (.scr ns)) (k : K (.slt i) env = R) : bnd (mName i env) K = R := by
  unfold mName; rw [h]; exact k
theorem c_c (k : K (.dat d) env = R) : bnd (mC d env) K = R := k
theorem c_frz (k : bnd (m env) (fun r e => bnd (frz (r, e)) K) = R) : bnd (mFrz m env) K = R := by
  rw [← k]; unfold mFrz bnd; cases m env <;> rfl
theorem c_frzD (k : K (.dat d) e = R) : bnd (frz (.dat d, e)) K = R := k
theorem c_frzN (k : K (.dat (.list ds)) e = R) : bnd (frz (.new (.lst ds), e)) K = R := k
def opK (g : PyData → PyData → Option Res) (r1 r2 : Res) (e : Sl) (K : Res → Sl → Option β) : Option β := (rdv e (stab r1)).bind fun dx => (rdv e (stab r2)).bind fun dy => (g dx dy).bind fun r => K r e
variable {g g' : PyData → PyData → Option Res}
theorem c_op (k : bnd (ma env) (fun r1 e1 => bnd (mb e1) fun r2 e2 => opK g r1 r2 e2 K) = R) : bnd (mOp g ma mb env) K = R := by
  rw [← k]; unfold mOp bnd opK
  cases ma env with
  | none => rfl
  | some p =>
    simp only [Option.bind_some]
    cases mb p.2 with
    | none => rfl
    | some q =>
      simp only [Option.bind_some]
      cases rdv q.2 (stab p.1) with
      | none => rfl
      | some x =>
        simp only [Option.bind_some]
        cases rdv q.2 (stab q.1) with
        | none => rfl
        | some y =>
          simp only [Option.bind_some]
          cases g x y <;> rfl
theorem c_opK (h1 : rdv e (stab r1) = some dx) (h2 : rdv e (stab r2) = some dy) (k : (g dx dy).bind (fun r => K r e) = R) : opK g r1 r2 e K = R := by
  unfold opK; rw [h1, h2]; exact k
def unK (g : PyData → Option Res) (r : Res) (e : Sl) (K : Res → Sl → Option β) : Option β := (rdv e (stab r)).bind fun dx => (g dx).bind fun r => K r e
theorem c_un {g : PyData → Option Res} (k : bnd (ma env) (fun r e => unK g r e K) = R) : bnd (mUn g ma env) K = R := by
  rw [← k]; unfold mUn bnd unK
  cases ma env with
  | none => rfl
  | some p =>
    simp only [Option.bind_some]
    cases rdv p.2 (stab p.1) with
    | none => rfl
    | some x =>
      simp only [Option.bind_some]
      cases g x <;> rfl
theorem c_unK {g : PyData → Option Res} (h1 : rdv e (stab r) = some dx) (k : (g dx).bind (fun r => K r e) = R) : unK g r e K = R := by
  unfold unK; rw [h1]; exact k
end
section
variable {K : Bool → Sl → Option β} {b c : Bool}
def testK (r : Res) (e : Sl) (K : Bool → Sl → Option β) : Option β := match r with
  | .dat (.bool b) => K b e
  | _ => none
theorem c_test (k : bnd (m env) (fun r e => testK r e K) = R) : bnd (mTest m env) K = R := by
  rw [← k]; unfold mTest bnd
  cases m env with
  | none => rfl
  | some p =>
    cases p with
    | mk r e =>
      cases r with
      | dat d => cases d <;> rfl
      | _ => rfl
theorem c_testK (k : K b e = R) : testK (.dat (.bool b)) e K = R := k
theorem c_andB (k : bnd (t env) (fun c e => bnd (if c = true then u e else some (false, e)) K) = R) : bnd (mAnd t u env) K = R := by
  rw [← k]; unfold mAnd bnd
  cases t env with
  | none => rfl
  | some p => cases p with | mk c e => cases c <;> rfl
theorem c_orB (k : bnd (t env) (fun c e => bnd (if c = true then some (true, e) else u e) K) = R) : bnd (mOr t u env) K = R := by
  rw [← k]; unfold mOr bnd
  cases t env with
  | none => rfl
  | some p => cases p with | mk c e => cases c <;> rfl
theorem c_notB (k : bnd (t env) (fun c e => K (!c) e) = R) : bnd (mNot t env) K = R := by
  rw [← k]; unfold mNot bnd
  cases t env <;> rfl
theorem c_yes (k : K true env = R) : bnd (mYes env) K = R := k
theorem c_orP (h1 : t env = some (b, env)) (h2 : u env = some (c, env)) (k : K (b || c) env = R) : bnd (mOr t u env) K = R := by
  unfold mOr; rw [h1]
  cases b
  · show bnd (u env) K = R
    rw [h2]; exact k
  · exact k
end
section
variable {K : Res → Sl → Option β} {b c : Bool}
theorem c_andVP (h1 : ma env = some (.dat (.bool b), env)) (h2 : mb env = some (.dat (.bool c), env)) (k : K (.dat (.bool (b && c))) env = R) : bnd (mAndV ma mb env) K = R := by
  unfold mAndV; rw [h1]
  cases b
  · exact k
  · show bnd (mb env) K = R
    rw [h2]; exact k
def boolK (r : Res) (e : Sl) (K : Bool → Sl → Option β) : Option β := match r with
  | .dat (.bool b) => K b e
  | _ => none
theorem c_boolK {K : Bool → Sl → Option β} (k : K b e = R) : boolK (.dat (.bool b)) e K = R := k
theorem c_andV (k : bnd (ma env) (fun r e => boolK r e fun c e => bnd (if c = true then mb e else some (.dat (.bool false), e)) K) = R) : bnd (mAndV ma mb env) K = R := by
  rw [← k]; unfold mAndV bnd
  cases ma env with
  | none => rfl
  | some p =>
    cases p with
    | mk r e =>
      cases r with
      | dat d => cases d with
        | bool b => cases b <;> rfl
        | _ => rfl
      | _ => rfl
theorem c_notV (k : bnd (ma env) (fun r e => boolK r e fun c e => K (.dat (.bool (!c))) e) = R) : bnd (mNotV ma env) K = R := by
  rw [← k]; unfold mNotV bnd
  cases ma env with
  | none => rfl
  | some p =>
    cases p with
    | mk r e =>
      cases r with
      | dat d => cases d <;> rfl
      | _ => rfl
theorem c_if (k : bnd (t env) (fun c e => bnd (if c = true then ma e else mb e) K) = R) : bnd (mIf t ma mb env) K = R := by
  rw [← k]; unfold mIf bnd
  cases t env with
  | none => rfl
  | some p => cases p with | mk c e => cases c <;> rfl
theorem c_chain {g g' : PyData → PyData → Option Res} (k : bnd (ma env) (fun r1 e1 => bnd (mb e1) fun r2 e2 => opK g r1 r2 e2 fun r e => boolK r e fun c e => bnd (if c = true then (mc e).bind (fun t => (rdv t.2 (stab r2)).bind fun dy => (rdv t.2 (stab t.1)).bind fun dz => (g' dy dz).map fun r => (r, t.2)) else some (.dat (.bool false), e)) K) = R) : bnd (mChain g g' ma mb mc env) K = R := by
  rw [← k]; unfold mChain bnd opK
  cases ma env with
  | none => rfl
  | some p =>
    simp only [Option.bind_some]
    cases mb p.2 with
    | none => rfl
    | some q =>
      simp only [Option.bind_some]
      cases rdv q.2 (stab p.1) with
      | none => rfl
      | some x =>
        simp only [Option.bind_some]
        cases rdv q.2 (stab q.1) with
        | none => rfl
        | some y =>
          simp only [Option.bind_some]
          cases g x y with
          | none => rfl
          | some r =>
            cases r with
            | dat d => cases d with
              | bool b => cases b <;> rfl
              | _ => rfl
            | _ => rfl
variable {K' : List Res → Sl → Option β}
theorem c_nil (k : K' [] env = R) : bnd (mNil env) K' = R := k
theorem c_cons (k : bnd (m env) (fun r e => bnd (ms e) fun rs e' => K' (stab r :: rs) e') = R) : bnd (mCons m ms env) K' = R := by
  rw [← k]; unfold mCons bnd
  cases m env with
  | none => rfl
  | some p =>
    simp only [Option.bind_some]
    cases ms p.2 <;> rfl
def lstK (rs : List Res) (e : Sl) (K : Res → Sl → Option β) : Option β := (dats rs).bind fun ds => if ds.length ≤ 100000 then K (.new (.lst ds)) e else none
theorem c_lst (k : bnd (ms env) (fun rs e => lstK rs e K) = R) : bnd (mLst ms env) K = R := by
  rw [← k]; unfold mLst bnd lstK
  cases ms env with
  | none => rfl
  | some p =>
    simp only [Option.bind_some]
    cases dats p.1 with
    | none => rfl
    | some ds =>
      simp only [Option.bind_some]
      split <;> rfl
theorem c_lstK (ds : List PyData) (h : dats rs = some ds) (hl : ds.length ≤ 100000) (k : K (.new (.lst ds)) e = R) : lstK rs e K = R := by
  unfold lstK; rw [h]
  show (if ds.length ≤ 100000 then _ else _) = R
  rw [if_pos hl]; exact k
def tupK (rs : List Res) (e : Sl) (K : Res → Sl → Option β) : Option β := (dats rs).bind fun ds => if ds.length ≤ 100000 then K (.dat (.tuple ds)) e else none
theorem c_tup (k : bnd (ms env) (fun rs e => tupK rs e K) = R) : bnd (mTup ms env) K = R := by
  rw [← k]; unfold mTup bnd tupK
  cases ms env with
  | none => rfl
  | some p =>
    simp only [Option.bind_some]
    cases dats p.1 with
    | none => rfl
    | some ds =>
      simp only [Option.bind_some]
      split <;> rfl
theorem c_tupK (ds : List PyData) (h : dats rs = some ds) (hl : ds.length ≤ 100000) (k : K (.dat (.tuple ds)) e = R) : tupK rs e K = R := by
  unfold tupK; rw [h]
  show (if ds.length ≤ 100000 then _ else _) = R
  rw [if_pos hl]; exact k
def cbK (g : List PyData → Option Res) (rs : List Res) (e : Sl) (K : Res → Sl → Option β) : Option β := (rdAll e rs).bind fun ds => (g ds).bind fun r => K r e
theorem c_cb {g : List PyData → Option Res} (k : bnd (ms env) (fun rs e => cbK g rs e K) = R) : bnd (mCB g ms env) K = R := by
  rw [← k]; unfold mCB bnd cbK
  cases ms env with
  | none => rfl
  | some p =>
    simp only [Option.bind_some]
    cases rdAll p.2 p.1 with
    | none => rfl
    | some ds =>
      simp only [Option.bind_some]
      cases g ds <;> rfl
theorem c_cbK {g : List PyData → Option Res} (ds : List PyData) (h : rdAll e rs = some ds) (k : (g ds).bind (fun r => K r e) = R) : cbK g rs e K = R := by
  unfold cbK; rw [h]; exact k
def bmK (T : String) (g : PyData → List PyData → Option Res) (ms : MA) (r : Res) (e : Sl) (K : Res → Sl → Option β) : Option β := (rdv e (stab r)).bind fun d0 => if tyD T d0 = true then bnd (ms e) fun rs e' => (rdv e' (stab r)).bind fun d => (rdAll e' rs).bind fun ds => (g d ds).bind fun r => K r e' else none
theorem c_bm {T : String} {g : PyData → List PyData → Option Res} (k : bnd (m env) (fun r e => bmK T g ms r e K) = R) : bnd (mBM T g m ms env) K = R := by
  rw [← k]; unfold mBM bnd bmK
  cases m env with
  | none => rfl
  | some p =>
    simp only [Option.bind_some]
    cases rdv p.2 (stab p.1) with
    | none => rfl
    | some d0 =>
      simp only [Option.bind_some]
      split
      · unfold bnd
        cases ms p.2 with
        | none => rfl
        | some q =>
          simp only [Option.bind_some]
          cases rdv q.2 (stab p.1) with
          | none => rfl
          | some d =>
            simp only [Option.bind_some]
            cases rdAll q.2 q.1 with
            | none => rfl
            | some ds =>
              simp only [Option.bind_some]
              cases g d ds <;> rfl
      · rfl
def bmK2 (g : PyData → List PyData → Option Res) (r : Res) (rs : List Res) (e : Sl) (K : Res → Sl → Option β) : Option β := (rdv e (stab r)).bind fun d => (rdAll e rs).bind fun ds => (g d ds).bind fun r => K r e
theorem c_bmK {T : String} {g : PyData → List PyData → Option Res} (d0 : PyData) (h1 : rdv e (stab r) = some d0) (h2 : tyD T d0 = true) (k : bnd (ms e) (fun rs e' => bmK2 g r rs e' K) = R) : bmK T g ms r e K = R := by
  unfold bmK; rw [h1]
  simp only [Option.bind_some, h2, if_true]
  exact k
theorem c_bmK2 {g : PyData → List PyData → Option Res} (d : PyData) (ds : List PyData) (h1 : rdv e (stab r) = some d) (h2 : rdAll e rs = some ds) (k : (g d ds).bind (fun r => K r e) = R) : bmK2 g r rs e K = R := by
  unfold bmK2; rw [h1, h2]; exact k
end
section
variable {K : Res → Sl → Option β} {fm : FM} {io : Option Nat} {ins : Sl}
def callK (fm : FM) (io : Option Nat) (rs : List Res) (e : Sl) (K : Res → Sl → Option β) : Option β := if lentOk io rs = true then (argsV true io e 0 rs).bind fun ins => (fm ins).bind fun q => if (flatR q.1 && q.2.all flatS) = true then (backV io e rs q.2).bind fun e' => K q.1 e' else none else none
theorem c_callF (k : bnd (ms env) (fun rs e => callK fm io rs e K) = R) : bnd (mCallF fm io ms env) K = R := by
  rw [← k]; unfold mCallF bnd callK
  cases ms env with
  | none => rfl
  | some p =>
    simp only [Option.bind_some]
    split
    · cases argsV true io p.2 0 p.1 with
      | none => rfl
      | some ins =>
        simp only [Option.bind_some]
        cases fm ins with
        | none => rfl
        | some q =>
          simp only [Option.bind_some]
          split
          · cases backV io p.2 p.1 q.2 <;> rfl
          · rfl
    · rfl
theorem c_callK {τ : Type} {Y : Option τ} {out : τ → Res × Sl} {bk : τ → Sl} {k : τ → Option γ} {h : γ → Option β} (h1 : lentOk io rs = true) (h2 : argsV true io e 0 rs = some ins) (q : fm ins = Y.map out) (hf : ∀ z, (flatR (out z).1 && (out z).2.all flatS) = true) (hb : ∀ z, backV io e rs (out z).2 = some (bk z)) (p : ∀ z, K (out z).1 (bk z) = (k z).bind h) : callK fm io rs e K = (Y.bind k).bind h := by
  unfold callK
  rw [if_pos h1, h2, Option.bind_some, q]
  cases Y with
  | none => rfl
  | some z =>
    show (if (flatR (out z).1 && (out z).2.all flatS) = true then (backV io e rs (out z).2).bind fun e' => K (out z).1 e' else none) = _
    rw [if_pos (hf z), hb z]
    exact p z
def mutK (i : Nat) (f : List PyData → List PyData → Option (List PyData × PyData)) (rs : List Res) (e : Sl) (K : Res → Sl → Option β) : Option β := (dats rs).bind fun es => (lstAt e i).bind fun q => (f q.2 es).bind fun z => K (.dat z.2) (e.set i (q.1.put (.lst z.1)))
theorem c_mut {f : List PyData → List PyData → Option (List PyData × PyData)} {q : Slot × List PyData} (h : lstAt env i = some q) (k : bnd (ms env) (fun rs e => mutK i f rs e K) = R) : bnd (mMut i f ms env) K = R := by
  rw [← k]; unfold mMut bnd mutK
  rw [h]
  simp only [Option.bind_some]
  cases ms env with
  | none => rfl
  | some p =>
    simp only [Option.bind_some]
    cases dats p.1 with
    | none => rfl
    | some es =>
      simp only [Option.bind_some]
      cases lstAt p.2 i with
      | none => rfl
      | some q =>
        simp only [Option.bind_some]
        cases f q.2 es <;> rfl
end
section
variable {K : Fl → Sl → Option β} {a b : MS} {ws : List Nat}
def seqK (b : MS) (f : Fl) (e : Sl) (K : Fl → Sl → Option β) : Option β := match f with
  | .nx => bnd (b e) K
  | f => K f e
theorem c_seq (k : bnd (a env) (fun f e => seqK b f e K) = R) : bnd (mSeq a b env) K = R := by
  rw [← k]; unfold mSeq bnd seqK
  cases a env with
  | none => rfl
  | some p =>
    cases p with
    | mk f e => cases f <;> rfl
theorem c_seqN (k : bnd (b e) K = R) : seqK b .nx e K = R := k
theorem c_seqR (k : K (.rt r) e = R) : seqK b (.rt r) e K = R := k
theorem c_skip (k : K .nx env = R) : bnd (mSkip env) K = R := k
theorem c_drop (k : bnd (m env) (fun r e => K .nx e) = R) : bnd (mDrop m env) K = R := by
  rw [← k]; unfold mDrop bnd
  cases m env <;> rfl
def retK (ws : List Nat) (r : Res) (e : Sl) (K : Fl → Sl → Option β) : Option β := (retR ws (r, e)).bind fun r => K (.rt r) (wipeS e ws)
theorem c_ret (k : bnd (m env) (fun r e => retK ws r e K) = R) : bnd (mRetW ws m env) K = R := by
  rw [← k]; unfold mRetW bnd retK
  cases m env with
  | none => rfl
  | some p =>
    simp only [Option.bind_some]
    cases retR ws p <;> rfl
theorem c_retK (r' : Res) (h : retR ws (r, e) = some r') (hw : wipeS e ws = e2) (k : K (.rt r') e2 = R) : retK ws r e K = R := by
  unfold retK; rw [h, hw]; exact k
theorem c_ifS (k : bnd (t env) (fun c e => bnd (if c = true then a e else b e) K) = R) : bnd (mIfS t a b env) K = R := by
  rw [← k]; unfold mIfS bnd
  cases t env with
  | none => rfl
  | some p => cases p with | mk c e => cases c <;> rfl
def setK (i : Nat) (r : Res) (e : Sl) (K : Fl → Sl → Option β) : Option β := (putRes i (r, e)).bind fun e => K .nx e
theorem c_set (k : bnd (m env) (fun r e => setK i r e K) = R) : bnd (mSet i m env) K = R := by
  rw [← k]; unfold mSet bnd setK
  cases m env with
  | none => rfl
  | some p =>
    simp only [Option.bind_some]
    cases putRes i p <;> rfl
theorem c_setD (hs : e.set i (.val d) = e2) (k : K .nx e2 = R) : setK i (.dat d) e K = R := by
  subst hs; exact k
theorem c_setN {c : Cell} (hs : e.set i (.own c) = e2) (k : K .nx e2 = R) : setK i (.new c) e K = R := by
  subst hs; exact k
theorem c_aft (k : bnd (a env) (fun f e => bnd (some (aft ws (f, e))) K) = R) : bnd (mAft ws a env) K = R := by
  rw [← k]; unfold mAft bnd
  cases a env <;> rfl
theorem c_aftN (hw : wipeS e ws = e2) (k : K .nx e2 = R) : bnd (some (aft ws (.nx, e))) K = R := by
  subst hw; exact k
theorem c_aftR (k : K (.rt r) e = R) : bnd (some (aft ws (.rt r, e))) K = R := k
theorem c_bef (hw : wipeS env ws = e2) (k : bnd (a e2) K = R) : bnd (mBef ws a env) K = R := by
  subst hw; exact k
def augK (i : Nat) (a : Int) (f : Int → Int → Int) (r : Res) (e : Sl) (K : Fl → Sl → Option β) : Option β := match r with
  | .dat (.int b) => K .nx (e.set i (.val (.int (f a b))))
  | _ => none
theorem c_aug {x : Int} {f : Int → Int → Int} (h : env[i]? = some (.val (.int x))) (k : bnd (m env) (fun r e => augK i x f r e K) = R) : bnd (mAugI i f m env) K = R := by
  rw [← k]; unfold mAugI bnd augK
  rw [h]
  simp only
  cases m env with
  | none => rfl
  | some p =>
    cases p with
    | mk r e =>
      cases r with
      | dat d => cases d <;> rfl
      | _ => rfl
def asgK (g : MG) (r : Res) (e : Sl) (K : Fl → Sl → Option β) : Option β := match r with
  | .dat d => (g d e).bind fun e => K .nx e
  | _ => none
theorem c_asg {g : MG} (k : bnd (m env) (fun r e => bnd (frz (r, e)) fun r e => asgK g r e K) = R) : bnd (mAsg m g env) K = R := by
  rw [← k]; unfold mAsg mFrz bnd
  cases m env with
  | none => rfl
  | some p =>
    simp only [Option.bind_some]
    cases hq : frz p with
    | none => rfl
    | some q =>
      cases q with
      | mk r e =>
        cases r with
        | dat d =>
          show ((g d e).map _).bind _ = _
          simp only [Option.bind_some, asgK]
          cases g d e <;> rfl
        | _ => rfl
theorem c_asgK {g : MG} (k : (g d e).bind (fun e => K .nx e) = R) : asgK g (.dat d) e K = R := k
end
section
variable {K : Sl → Option β}
theorem c_gname (hs : e.set j (.val d) = e2) (k : K e2 = R) : (mgName j d e).bind K = R := by
  subst hs; exact k
theorem c_gtup {gs : MGs} (k : (gs ds e).bind K = R) : (mgTup gs (.tuple ds) e).bind K = R := k
theorem c_gcons {g : MG} {gs : MGs} (k : (g d e).bind (fun e => (gs ds e).bind K) = R) : (mgCons g gs (d :: ds) e).bind K = R := by
  rw [← k]
  show ((g d e).bind _).bind K = _
  cases g d e <;> rfl
theorem c_gnil (k : K e = R) : (mgNil [] e).bind K = R := k
def subK (i : Nat) (d : PyData) (r : Res) (e : Sl) (K : Sl → Option β) : Option β := match r with
  | .dat (.int k) => (lstAt e i).bind fun q => (ixN q.2.length k).bind fun j => K (e.set i (q.1.put (.lst (q.2.set j d))))
  | _ => none
theorem c_gsub {q : Slot × List PyData} (h : lstAt e i = some q) (k : bnd (m e) (fun r e => subK i d r e K) = R) : (mgSub i m d e).bind K = R := by
  rw [← k]; unfold mgSub bnd
  rw [h]
  simp only [Option.bind_some]
  cases m e with
  | none => rfl
  | some p =>
    cases p with
    | mk r e =>
      cases r with
      | dat x =>
        cases x with
        | int z =>
          simp only [Option.bind_some, subK]
          cases lstAt e i with
          | none => rfl
          | some q =>
            simp only [Option.bind_some]
            cases ixN q.2.length z <;> rfl
        | _ => rfl
      | _ => rfl
def pSet {α : Type} (l : List α) (i : Int) (x : α) : Option (List α) := (ixN l.length i).map fun k => l.set k x
theorem c_gsubK {α : Type} {ec : α → PyData} {l : List α} {x : α} {z : Int} {s : Slot} {k : List α → Option γ} {h : γ → Option β} (h1 : lstAt e i = some (s, l.map ec)) (p : ∀ l' : List α, K (e.set i (s.put (.lst (l'.map ec)))) = (k l').bind h) : subK i (ec x) (.dat (.int z)) e K = ((pSet l z x).bind k).bind h := by
  show ((lstAt e i).bind fun q => (ixN q.2.length z).bind fun j => K (e.set i (q.1.put (.lst (q.2.set j (ec x)))))) = _
  rw [h1]
  simp only [Option.bind_some, List.length_map, pSet]
  cases ixN l.length z with
  | none => rfl
  | some n =>
    show K (e.set i (s.put (.lst ((l.map ec).set n (ec x))))) = (k (l.set n x)).bind h
    rw [← p, List.map_set]
end
end
end Cm
namespace Cm
open PySem L2
abbrev eI : Int → PyData := PyData.int
abbrev eB : Bool → PyData := PyData.bool
abbrev eS : Str → PyData := PyData.str
abbrev eU : Unit → PyData := fun _ => .none
abbrev eD : PyData → PyData := fun d => d
section
variable {α β γ δ ε ζ : Type}
abbrev eL (e : α → PyData) : List α → PyData := fun l => .list (l.map e)
abbrev eV (e : α → PyData) : List α → PyData := fun l => .tuple (l.map e)
abbrev eT2 (a : α → PyData) (b : β → PyData) : α × β → PyData := fun p => .tuple [a p.1, b p.2]
abbrev eT3 (a : α → PyData) (b : β → PyData) (c : γ → PyData) : α × β × γ → PyData := fun p => .tuple [a p.1, b p.2.1, c p.2.2]
def eO (e : α → PyData) : Option α → PyData
  | none => .none
  | some x => e x
end
def gd (p : Prop) [Decidable p] : Option Unit := if p then some () else none
def pMul (i j : Int) : Option Int := if (-(2 ^ 64) < i ∧ i < 2 ^ 64) ∨ (-(2 ^ 64) < j ∧ j < 2 ^ 64) then some (i * j) else none
def pDiv (i j : Int) : Option Int := if 0 < j ∧ j < 1073741824 then some (i / j) else none
def pMod (i j : Int) : Option Int := if 0 < j then some (i % j) else none
theorem x_mul {i j : Int} : gMul (.int i) (.int j) = (pMul i j).map (fun z => .dat (.int z)) := by
  simp only [gMul, pMul]; split <;> rfl
theorem x_div {i j : Int} : gDiv (.int i) (.int j) = (pDiv i j).map (fun z => .dat (.int z)) := by
  simp only [gDiv, pDiv]; split <;> rfl
theorem x_mod {i j : Int} : gMod (.int i) (.int j) = (pMod i j).map (fun z => .dat (.int z)) := by
  simp only [gMod, pMod]; split <;> rfl
theorem x_mulL {i j : Int} (h : -(2 ^ 64) < i ∧ i < 2 ^ 64) : gMul (.int i) (.int j) = some (.dat (.int (i * j))) := by
  simp only [gMul, if_pos (Or.inl h)]
theorem x_mulR {i j : Int} (h : -(2 ^ 64) < j ∧ j < 2 ^ 64) : gMul (.int i) (.int j) = some (.dat (.int (i * j))) := by
  simp only [gMul, if_pos (Or.inr h)]
theorem x_divC {i j : Int} (h : 0 < j ∧ j < 1073741824) : gDiv (.int i) (.int j) = some (.dat (.int (i / j))) := by
  simp only [gDiv, if_pos h]
theorem x_modC {i j : Int} (h : 0 < j) : gMod (.int i) (.int j) = some (.dat (.int (i % j))) := by
  simp only [gMod, if_pos h]
theorem x_add {i j : Int} : gAdd (.int i) (.int j) = some (.dat (.int (i + j))) := rfl
theorem x_sub {i j : Int} : gMinus (.int i) (.int j) = some (.dat (.int (i - j))) := rfl
theorem x_neg {i : Int} : gNeg (.int i) = some (.dat (.int (-i))) := rfl
theorem x_cmp {p : Int → Int → Bool} {i j : Int} : gCmp p (.int i) (.int j) = some (.dat (.bool (p i j))) := rfl
theorem x_int1 {f : Int → Int} {i : Int} : gInt1 f [.int i] = some (.dat (.int (f i))) := rfl
theorem x_int2 {f : Int → Int → Int} {i j : Int} : gInt2 f [.int i, .int j] = some (.dat (.int (f i j))) := rfl
theorem x_intB {b : Bool} : gInt [.bool b] = some (.dat (.int (if b then 1 else 0))) := rfl
def pStr (i : Int) : Option Str := if i.natAbs.log2 < 1920 then some (toString i) else none
theorem x_str {i : Int} : gStr [.int i] = (pStr i).map (fun z => .dat (.str z)) := by
  simp only [gStr, pStr]; split <;> rfl
theorem x_eqI {neg : Bool} {a b : Int} : gEq neg (.int a) (.int b) = some (.dat (.bool (neg ^^ decide (a = b)))) := by
  simp only [gEq, scalD, Bool.true_or, if_true]
  rfl
theorem x_eqB {neg : Bool} {a b : Bool} : gEq neg (.bool a) (.bool b) = some (.dat (.bool (neg ^^ decide (a = b)))) := by
  simp only [gEq, scalD, Bool.true_or, if_true, PyData.eqv]
  cases a <;> cases b <;> rfl
theorem x_eqS {neg : Bool} {a b : Str} : gEq neg (.str a) (.str b) = some (.dat (.bool (neg ^^ decide (a = b)))) := by
  simp only [gEq, scalD, Bool.true_or, if_true]
  rfl
def pEqD (neg : Bool) (dx dy : PyData) : Option Bool := if (scalD dx dy || (SeqAt.shaped dx && SeqAt.shaped dy)) = true then some (neg ^^ PyData.eqv dx dy) else none
theorem x_eqD {neg : Bool} {dx dy : PyData} : gEq neg dx dy = (pEqD neg dx dy).map (fun z => .dat (.bool z)) := by
  simp only [gEq, pEqD]; split <;> rfl
structure EqE {α : Type} (e : α → PyData) [DecidableEq α] : Prop where
  eq : ∀ x y, PyData.eqv (e x) (e y) = decide (x = y)
theorem eqE_str : EqE eS := ⟨fun _ _ => rfl⟩
theorem eqvAll_map {α : Type} [DecidableEq α] {e : α → PyData} (h : EqE e) : ∀ xs ys : List α, PyData.eqvAll (xs.map e) (ys.map e) = decide (xs = ys)
  | [], [] => rfl
  | [], _ :: _ => rfl
  | _ :: _, [] => rfl
  | x :: xs, y :: ys => by
    show (PyData.eqv (e x) (e y) && PyData.eqvAll (xs.map e) (ys.map e)) = _
    rw [eqvAll_map h xs ys, h.eq]
    simp
theorem eqE_list {α : Type} [DecidableEq α] {e : α → PyData} (h : EqE e) : EqE (eL e) := ⟨fun x y => eqvAll_map h x y⟩
theorem eqE_t2 {α β : Type} [DecidableEq α] [DecidableEq β] {a : α → PyData} {b : β → PyData} (ha : EqE a) (hb : EqE b) : EqE (eT2 a b) := ⟨fun x y => by
  show (PyData.eqv (a x.1) (a y.1) && (PyData.eqv (b x.2) (b y.2) && true)) = _
  rw [ha.eq, hb.eq]
  obtain ⟨x1, x2⟩ := x
  obtain ⟨y1, y2⟩ := y
  simp⟩
def pEq {α : Type} [DecidableEq α] (e : α → PyData) (neg : Bool) (x y : α) : Option Bool := if (SeqAt.shaped (e x) && SeqAt.shaped (e y)) = true then some (neg ^^ decide (x = y)) else none
theorem x_eqE {α : Type} [DecidableEq α] {e : α → PyData} (h : EqE e) {neg : Bool} {x y : α} (hs : scalD (e x) (e y) = false) : gEq neg (e x) (e y) = (pEq e neg x y).map (fun z => .dat (.bool z)) := by
  simp only [gEq, pEq, h.eq, hs, Bool.false_or]; split <;> rfl
def pIx {α : Type} (l : List α) (i : Int) : Option α := atI l i
theorem atI_map {α β : Type} (f : α → β) (l : List α) (i : Int) : atI (l.map f) i = (atI l i).map f := by
  unfold atI
  rw [List.length_map]
  cases ixN l.length i with
  | none => rfl
  | some k => simp [List.getElem?_map]
theorem x_ix {α : Type} {e : α → PyData} {l : List α} {i : Int} : gIx (.list (l.map e)) (.int i) = (pIx l i).map (fun z => .dat (e z)) := by
  show (atI (l.map e) i).map Res.dat = _
  rw [atI_map, Option.map_map]
  rfl
theorem x_ixV {α : Type} {e : α → PyData} {l : List α} {i : Int} : gIx (.tuple (l.map e)) (.int i) = (pIx l i).map (fun z => .dat (e z)) := by
  show (atI (l.map e) i).map Res.dat = _
  rw [atI_map, Option.map_map]
  rfl
def pIxS (z : Str) (i : Int) : Option Str := if z.length ≤ 100000 then (atI z.cps.toList i).map fun c => ⟨#[c]⟩ else none
theorem x_ixS {z : Str} {i : Int} : gIx (.str z) (.int i) = (pIxS z i).map (fun z => .dat (.str z)) := by
  simp only [gIx, pIxS]
  split
  · rw [Option.map_map]; rfl
  · rfl
theorem x_ixT {ds : List PyData} {i : Int} {d : PyData} (h : atI ds i = some d) : gIx (.tuple ds) (.int i) = some (.dat d) := by
  simp only [gIx, h]; rfl
def pCat {α : Type} (a b : List α) : Option (List α) := if a.length + b.length ≤ 100000 then some (a ++ b) else none
theorem x_cat {α : Type} {e : α → PyData} {a b : List α} : gAdd (.list (a.map e)) (.list (b.map e)) = (pCat a b).map (fun l => .new (.lst (l.map e))) := by
  simp only [gAdd, pCat, List.length_map]
  split
  · simp
  · rfl
def pCatS (a b : Str) : Option Str := if a.length + b.length ≤ 100000 then some (a ++ b) else none
theorem x_catS {a b : Str} : gAdd (.str a) (.str b) = (pCatS a b).map (fun z => .dat (.str z)) := by
  simp only [gAdd, pCatS]; split <;> rfl
theorem x_lenL {α : Type} {e : α → PyData} {l : List α} : gLen [.list (l.map e)] = some (.dat (.int l.length)) := by
  simp only [gLen, List.length_map]
def pLenS (x : Str) : Option Int := if x.length ≤ 100000 then some x.length else none
theorem x_lenS {x : Str} : gLen [.str x] = (pLenS x).map (fun z => .dat (.int z)) := by
  simp only [gLen, pLenS]; split <;> rfl
theorem x_listL {ds : List PyData} : gList [.list ds] = some (.new (.lst ds)) := rfl
theorem boolsD_map : ∀ l : List Bool, boolsD (l.map .bool) = some l
  | [] => rfl
  | x :: l => by
    show (boolsD (l.map .bool)).map (x :: ·) = _
    rw [boolsD_map l]; rfl
theorem x_all {l : List Bool} : gAll [.list (l.map .bool)] = some (.dat (.bool (l.all id))) := by
  simp only [gAll, boolsD_map]; rfl
def cutL {α : Type} (l : List α) (lo hi : Option Int) : List α := (l.drop (HT.sIx l.length 0 lo)).take (HT.sIx l.length l.length hi - HT.sIx l.length 0 lo)
theorem x_cut {α : Type} {e : α → PyData} {l : List α} {lo hi : Option Int} : gSlL (.list (l.map e)) lo hi = some (.new (.lst ((cutL l lo hi).map e))) := by
  simp only [gSlL, cutD, cutL, List.length_map, List.map_take, List.map_drop]
def pApp {α : Type} (l : List α) (x : α) : Option (List α) := if l.length < 100000 then some (l ++ [x]) else none
theorem x_app {α : Type} {e : α → PyData} {l : List α} {x : α} : fApp (l.map e) [e x] = (pApp l x).map (fun l => (l.map e, .none)) := by
  simp only [fApp, pApp, List.length_map]
  split
  · simp
  · rfl
def rangeI (n : Int) : List Int := (List.range n.toNat).map fun i : Nat => (i : Int)
def pRng (n : Int) : Option (List Int) := if -(2 ^ 62) ≤ n ∧ n < 2 ^ 62 then some (rangeI n) else none
def enumI {α : Type} : Nat → List α → List (Int × α)
  | _, [] => []
  | i, x :: l => ((i : Int), x) :: enumI (i + 1) l
theorem enum_map {α : Type} {e : α → PyData} : ∀ (i : Nat) (l : List α), enumD i (l.map e) = (enumI i l).map (eT2 eI e)
  | _, [] => rfl
  | i, x :: l => by
    show _ :: enumD (i + 1) (l.map e) = _
    rw [enum_map (i + 1) l]; rfl
theorem zip_map {α β : Type} {e : α → PyData} {f : β → PyData} : ∀ (l : List α) (l' : List β), zipD (l.map e) (l'.map f) = (l.zip l').map (eT2 e f)
  | [], _ => by cases ‹List β› <;> rfl
  | _ :: _, [] => rfl
  | x :: l, y :: l' => by
    show _ :: zipD (l.map e) (l'.map f) = _
    rw [zip_map l l']; rfl
section
variable {β γ : Type} {env e e2 : Sl} {R : Option β} {m : ME} {ms : MA} {K : List PyData → Sl → Option β} {ds : List PyData}
def itLK (r : Res) (e : Sl) (K : List PyData → Sl → Option β) : Option β := match r with
  | .dat (.list ds) => K ds e
  | _ => none
theorem c_itL (k : bnd (m env) (fun r e => bnd (frz (r, e)) fun r e => itLK r e K) = R) : bnd (mItL m env) K = R := by
  rw [← k]; unfold mItL mFrz bnd
  cases m env with
  | none => rfl
  | some p =>
    simp only [Option.bind_some]
    cases frz p with
    | none => rfl
    | some q =>
      cases q with
      | mk r e =>
        cases r with
        | dat d => cases d <;> rfl
        | _ => rfl
theorem c_itLK (k : K ds e = R) : itLK (.dat (.list ds)) e K = R := k
def itTK (r : Res) (e : Sl) (K : List PyData → Sl → Option β) : Option β := match r with
  | .dat (.tuple ds) => K ds e
  | _ => none
theorem c_itT (k : bnd (m env) (fun r e => bnd (frz (r, e)) fun r e => itTK r e K) = R) : bnd (mItT m env) K = R := by
  rw [← k]; unfold mItT mFrz bnd
  cases m env with
  | none => rfl
  | some p =>
    simp only [Option.bind_some]
    cases frz p with
    | none => rfl
    | some q =>
      cases q with
      | mk r e =>
        cases r with
        | dat d => cases d <;> rfl
        | _ => rfl
theorem c_itTK (k : K ds e = R) : itTK (.dat (.tuple ds)) e K = R := k
def rngK (rs : List Res) (e : Sl) (K : List PyData → Sl → Option β) : Option β := (rdAll e rs).bind fun ds => match ds with
  | [.int j] => (pRng j).bind fun l => K (l.map eI) e
  | _ => none
theorem c_rng (k : bnd (ms env) (fun rs e => rngK rs e K) = R) : bnd (mRange1 ms env) K = R := by
  rw [← k]; unfold mRange1 bnd rngK
  cases ms env with
  | none => rfl
  | some p =>
    simp only [Option.bind_some]
    cases rdAll p.2 p.1 with
    | none => rfl
    | some ds =>
      simp only [Option.bind_some]
      rcases ds with _ | ⟨d1, _ | ⟨d2, _ | ⟨d3, _ | ⟨d4, ds⟩⟩⟩⟩
      · rfl
      · cases d1 with
        | int i =>
          simp only [pRng]
          split
          · simp [rangeI, Function.comp_def]
          · rfl
        | _ => rfl
      · cases d1 <;> first | rfl | (cases d2 <;> first | rfl | (cases d3 <;> first | rfl | (cases d4 <;> rfl)))
      · cases d1 <;> first | rfl | (cases d2 <;> first | rfl | (cases d3 <;> first | rfl | (cases d4 <;> rfl)))
      · cases d1 <;> first | rfl | (cases d2 <;> first | rfl | (cases d3 <;> first | rfl | (cases d4 <;> rfl)))
theorem c_rngK {j : Int} {rs : List Res} {k : List Int → Option γ} {h : γ → Option β} (h1 : rdAll e rs = some [.int j]) (p : ∀ l, K (l.map eI) e = (k l).bind h) : rngK rs e K = ((pRng j).bind k).bind h := by
  unfold rngK; rw [h1]
  show ((pRng j).bind fun l => K (l.map eI) e) = _
  cases pRng j with
  | none => rfl
  | some l => exact p l
def enumK (rs : List Res) (e : Sl) (K : List PyData → Sl → Option β) : Option β := match rs with
  | [.dat (.list ds)] => K (enumD 0 ds) e
  | _ => none
theorem c_enum (k : bnd (ms env) (fun rs e => enumK rs e K) = R) : bnd (mEnum ms env) K = R := by
  rw [← k]; unfold mEnum bnd enumK
  cases ms env with
  | none => rfl
  | some p =>
    cases p with
    | mk rs e =>
      rcases rs with _ | ⟨r1, _ | ⟨r2, rs⟩⟩
      · rfl
      · cases r1 with
        | dat d => cases d <;> rfl
        | _ => rfl
      · cases r1 with
        | dat d => cases d <;> rfl
        | _ => rfl
theorem c_enumK {α : Type} {rs : List Res} {ec : α → PyData} {l : List α} (h : rs = [.dat (.list (l.map ec))]) (k : K ((enumI 0 l).map (eT2 eI ec)) e = R) : enumK rs e K = R := by
  subst h
  show K (enumD 0 (l.map ec)) e = R
  rw [enum_map]; exact k
end
end Cm
namespace Cm
open PySem L2
section
variable {α β γ ρ σ τ : Type}
def forP (body : α → σ → Option σ) : List α → σ → Option σ
  | [], s => some s
  | x :: xs, s => (body x s).bind (forP body xs)
inductive Fw (ρ σ : Type) where
  | nx (s : σ)
  | bk (s : σ)
  | rt (r : ρ)
def Fw.on (w : Fw ρ σ) (f : ρ → β) (g : σ → β) : β := match w with
  | .rt r => f r
  | .nx s => g s
  | .bk s => g s
def forR (body : α → σ → Option (Fw ρ σ)) : List α → σ → Option (Fw ρ σ)
  | [], s => some (.nx s)
  | x :: xs, s => (body x s).bind fun w => match w with
    | .nx s => forR body xs s
    | .bk s => some (.nx s)
    | .rt r => some (.rt r)
def outN (E : σ → Sl) : σ → Fl × Sl := fun s => (.nx, E s)
def outB (oR : ρ → Res) (eR : ρ → Sl) (E : σ → Sl) : Fw ρ σ → Fl × Sl
  | .nx s => (.nx, E s)
  | .bk s => (.bk, E s)
  | .rt r => (.rt (oR r), eR r)
def outL (oR : ρ → Res) (eR : ρ → Sl) (E : σ → Sl) : Fw ρ σ → Fl × Sl
  | .nx s => (.nx, E s)
  | .bk s => (.nx, E s)
  | .rt r => (.rt (oR r), eR r)
variable {g : MG} {b : MS} {ec : α → PyData} {E : σ → Sl} {oR : ρ → Res} {eR : ρ → Sl}
theorem forL_P {body : α → σ → Option σ} (hb : ∀ x s, (g (ec x) (E s)).bind b = (body x s).map (outN E)) : ∀ (xs : List α) (s : σ), forL g b (xs.map ec) (E s) = (forP body xs s).map (outN E)
  | [], s => rfl
  | x :: xs, s => by
    show ((g (ec x) (E s)).bind fun e1 => (b e1).bind _) = _
    rw [← Option.bind_assoc, hb x s]
    show _ = Option.map _ ((body x s).bind (forP body xs))
    cases body x s with
    | none => rfl
    | some s' => exact forL_P hb xs s'
theorem forL_R {body : α → σ → Option (Fw ρ σ)} (hb : ∀ x s, (g (ec x) (E s)).bind b = (body x s).map (outB oR eR E)) : ∀ (xs : List α) (s : σ), forL g b (xs.map ec) (E s) = (forR body xs s).map (outL oR eR E)
  | [], s => rfl
  | x :: xs, s => by
    show ((g (ec x) (E s)).bind fun e1 => (b e1).bind _) = _
    rw [← Option.bind_assoc, hb x s]
    show _ = Option.map _ ((body x s).bind _)
    cases body x s with
    | none => rfl
    | some w =>
      cases w with
      | nx s' => exact forL_R hb xs s'
      | bk s' => rfl
      | rt r => rfl
variable {K : Fl → Sl → Option β} {mi : MI} {env e e2 : Sl} {R : Option β}
theorem c_for (k : bnd (mi env) (fun ds e => bnd (forL g b ds e) K) = R) : bnd (mFor mi g b env) K = R := by
  rw [← k]; unfold mFor bnd
  cases mi env <;> rfl
theorem c_loop {L : Option (Fl × Sl)} {W : Option σ} {k : σ → Option γ} {h : γ → Option β} (q : L = W.map (outN E)) (p : ∀ s, K .nx (E s) = (k s).bind h) : bnd L K = (W.bind k).bind h := c_cal2 q p
theorem c_loopR {L : Option (Fl × Sl)} {W : Option (Fw ρ σ)} {f : ρ → Option γ} {k : σ → Option γ} {h : γ → Option β} (q : L = W.map (outL oR eR E)) (p1 : ∀ r, K (.rt (oR r)) (eR r) = (f r).bind h) (p2 : ∀ s, K .nx (E s) = (k s).bind h) : bnd L K = (W.bind fun w => w.on f k).bind h := by
  subst q
  cases W with
  | none => rfl
  | some w =>
    cases w with
    | nx s => exact p2 s
    | bk s => exact p2 s
    | rt r => exact p1 r
theorem c_body {body : Option τ} {out : τ → Fl × Sl} {d : PyData} (k : (g d e).bind (fun e => bnd (b e) fun f e => some (f, e)) = body.bind fun z => some (out z)) : (g d e).bind b = body.map out := by
  have h1 : ∀ x : Option (Fl × Sl), bnd x (fun f e => some (f, e)) = x := fun x => by cases x <;> rfl
  simp only [h1] at k
  rw [k]
  cases body <;> rfl
end
section
variable {α β γ σ τ : Type}
def mapO (f : α → Option τ) : List α → Option (List τ)
  | [] => some []
  | x :: xs => (f x).bind fun y => (mapO f xs).map (y :: ·)
def fmO (f : α → Option (Option τ)) : List α → Option (List τ)
  | [] => some []
  | x :: xs => (f x).bind fun y => (fmO f xs).map (y.toList ++ ·)
def lcElt (vs : List Nat) (r : Res) (e : Sl) : Option (Option PyData × Sl) := match r with
  | .dat x => some (some x, wipeS e vs)
  | _ => none
def lcStep (g : MG) (t : MT) (me : ME) (vs : List Nat) (d : PyData) (e : Sl) : Option (Option PyData × Sl) :=
  (g d e).bind fun e1 => bnd (t e1) fun c e2 => bnd (if c = true then bnd (me e2) (fun r e => bnd (frz (r, e)) fun r e => lcElt vs r e) else some (none, wipeS e2 vs)) fun x e => some (x, e)
variable {g : MG} {t : MT} {me : ME} {vs : List Nat} {ec : α → PyData} {ed : τ → PyData} {E : σ → Sl}
theorem lcL_step (d : PyData) (ds : List PyData) (e : Sl) (acc : List PyData) : lcL g t me vs (d :: ds) e acc = (lcStep g t me vs d e).bind fun q => lcL g t me vs ds q.2 (acc ++ q.1.toList) := by
  show ((g d e).bind fun e1 => (t e1).bind fun p => if p.1 = true then (mFrz me p.2).bind _ else _) = _
  unfold lcStep bnd mFrz
  cases g d e with
  | none => rfl
  | some e1 =>
    simp only [Option.bind_some]
    cases t e1 with
    | none => rfl
    | some p =>
      cases p with
      | mk c e2 =>
        cases c with
        | false => simp
        | true =>
          simp only [Option.bind_some, if_true]
          cases me e2 with
          | none => rfl
          | some q =>
            simp only [Option.bind_some]
            cases frz (q.1, q.2) with
            | none => rfl
            | some w =>
              cases w with
              | mk r e => cases r <;> rfl
variable {e : Sl}
theorem lc_fmO {f : α → Option (Option τ)} (hb : ∀ x, lcStep g t me vs (ec x) e = (f x).map fun z => (z.map ed, e)) : ∀ (xs : List α) (acc : List PyData), lcL g t me vs (xs.map ec) e acc = (fmO f xs).map fun z => (acc ++ z.map ed, e)
  | [], acc => by
    show some (acc, e) = some (acc ++ [], e)
    rw [List.append_nil]
  | x :: xs, acc => by
    rw [List.map_cons, lcL_step, hb]
    show _ = Option.map _ ((f x).bind _)
    cases f x with
    | none => rfl
    | some y =>
      simp only [Option.map_some, Option.bind_some]
      rw [lc_fmO hb xs]
      cases fmO f xs with
      | none => rfl
      | some z => cases y <;> simp
theorem fmO_map {f : α → Option τ} : ∀ (xs : List α), fmO (fun x => (f x).map some) xs = mapO f xs
  | [] => rfl
  | x :: xs => by
    show ((f x).map _).bind _ = (f x).bind _
    cases f x with
    | none => rfl
    | some y =>
      simp only [Option.map_some, Option.bind_some]
      rw [fmO_map xs]
      rfl
theorem lc_mapO {f : α → Option τ} (hb : ∀ x, lcStep g t me vs (ec x) e = (f x).map fun z => (some (ed z), e)) (xs : List α) : lcL g t me vs (xs.map ec) e [] = (mapO f xs).map fun z => (z.map ed, e) := by
  rw [lc_fmO (f := fun x => (f x).map some) (ed := ed), fmO_map]
  · simp
  · intro x
    rw [hb, Option.map_map]
    rfl
variable {K : Res → Sl → Option β} {mi : MI} {env e1 : Sl} {R : Option β}
def lcK (g : MG) (t : MT) (me : ME) (vs : List Nat) (ds : List PyData) (e : Sl) (K : Res → Sl → Option β) : Option β := if ds.length ≤ 100000 then bnd (lcL g t me vs ds (wipeS e vs) []) fun acc e => K (.new (.lst acc)) e else none
theorem c_lc (k : bnd (mi env) (fun ds e => lcK g t me vs ds e K) = R) : bnd (mLc mi g t me vs env) K = R := by
  rw [← k]; unfold mLc bnd lcK
  cases mi env with
  | none => rfl
  | some p =>
    simp only [Option.bind_some]
    split
    · unfold bnd
      cases lcL g t me vs p.1 (wipeS p.2 vs) [] <;> rfl
    · rfl
theorem c_lcK {xs : List α} {k : Unit → Option γ} {h : γ → Option β} (hw : wipeS e vs = e1) (p : bnd (lcL g t me vs (xs.map ec) e1 []) (fun acc e => K (.new (.lst acc)) e) = (k ()).bind h) : lcK g t me vs (xs.map ec) e K = ((gd (xs.length ≤ 100000)).bind k).bind h := by
  subst hw
  unfold lcK gd
  rw [List.length_map]
  split
  · exact p
  · rfl
theorem c_elt {K : Option PyData → Sl → Option β} {d : PyData} (hw : wipeS e vs = e1) (k : K (some d) e1 = R) : bnd (lcElt vs (.dat d) e) K = R := by
  subst hw; exact k
theorem c_bb {x : Option (Res × Sl)} {K : Option PyData → Sl → Option β} (k : bnd x (fun r e => bnd (frz (r, e)) fun r e => bnd (lcElt vs r e) K) = R) : bnd (bnd x (fun r e => bnd (frz (r, e)) fun r e => lcElt vs r e)) K = R := by
  rw [← k]
  cases x with
  | none => rfl
  | some p =>
    simp only [bnd, Option.bind_some]
    cases frz (p.1, p.2) <;> rfl
theorem c_iteT {a b : Option (τ × Sl)} {K : τ → Sl → Option β} (k : bnd a K = R) : bnd (if true = true then a else b) K = R := k
variable {m : ME} {ml mh : MO}
def slK (g : PyData → Option Int → Option Int → Option Res) (r : Res) (lo hi : Option Int) (e : Sl) (K : Res → Sl → Option β) : Option β := (rdv e (stab r)).bind fun dx => (g dx lo hi).bind fun r => K r e
theorem c_sl {g : PyData → Option Int → Option Int → Option Res} (k : bnd (m env) (fun r e => bnd (ml e) fun lo e => bnd (mh e) fun hi e => slK g r lo hi e K) = R) : bnd (mSl g m ml mh env) K = R := by
  rw [← k]; unfold mSl bnd slK
  cases m env with
  | none => rfl
  | some p =>
    simp only [Option.bind_some]
    cases ml p.2 with
    | none => rfl
    | some a =>
      simp only [Option.bind_some]
      cases mh a.2 with
      | none => rfl
      | some b =>
        simp only [Option.bind_some]
        cases rdv b.2 (stab p.1) with
        | none => rfl
        | some dx =>
          simp only [Option.bind_some]
          cases g dx a.1 b.1 <;> rfl
theorem c_slK {g : PyData → Option Int → Option Int → Option Res} {r : Res} {lo hi : Option Int} (dx : PyData) (h : rdv e (stab r) = some dx) (k : (g dx lo hi).bind (fun r => K r e) = R) : slK g r lo hi e K = R := by
  unfold slK; rw [h]; exact k
theorem c_slScr {i : Nat} {ns : List Int} (h : env[i]? = some (.scr ns)) (k : bnd (ml env) (fun lo e => bnd (mh e) fun hi e => K (.new (.lst ((cutL ns lo hi).map eI))) e) = R) : bnd (mSlScr i ml mh env) K = R := by
  rw [← k]; unfold mSlScr bnd
  rw [h]
  simp only
  cases ml env with
  | none => rfl
  | some a =>
    simp only [Option.bind_some]
    cases mh a.2 with
    | none => rfl
    | some b =>
      simp only [Option.map_some, Option.bind_some]
      rw [show cutD (ns.map .int) a.1 b.1 = (cutL ns a.1 b.1).map eI by simp only [cutD, cutL, List.length_map, List.map_take, List.map_drop]]
section
variable {K : Option Int → Sl → Option β}
def partK (r : Res) (e : Sl) (K : Option Int → Sl → Option β) : Option β := match r with
  | .dat (.int i) => K (some i) e
  | _ => none
theorem c_part (k : bnd (m env) (fun r e => partK r e K) = R) : bnd (mPart m env) K = R := by
  rw [← k]; unfold mPart bnd
  cases m env with
  | none => rfl
  | some p =>
    cases p with
    | mk r e =>
      cases r with
      | dat d => cases d <;> rfl
      | _ => rfl
theorem c_partK {i : Int} (k : K (some i) e = R) : partK (.dat (.int i)) e K = R := k
theorem c_noPart (k : K none env = R) : bnd (mNoPart env) K = R := k
end
variable {ms : MA}
def putUK (is : List Nat) (rs : List Res) (e : Sl) (K : Fl → Sl → Option β) : Option β := (putsRes is rs e).bind fun e => K .nx e
theorem c_putU {is : List Nat} {K : Fl → Sl → Option β} (k : bnd (ms env) (fun rs e => putUK is rs e K) = R) : bnd (mPutU is ms env) K = R := by
  rw [← k]; unfold mPutU bnd putUK
  cases ms env with
  | none => rfl
  | some p =>
    simp only [Option.bind_some]
    cases putsRes is p.1 p.2 <;> rfl
theorem c_putUK {is : List Nat} {rs : List Res} {K : Fl → Sl → Option β} (e2 : Sl) (h : putsRes is rs e = some e2) (k : K .nx e2 = R) : putUK is rs e K = R := by
  unfold putUK; rw [h]; exact k
theorem c_consU {K : List Res → Sl → Option β} (k : bnd (m env) (fun r e => bnd (frzS (r, e)) fun r e => bnd (ms e) fun rs e' => K (r :: rs) e') = R) : bnd (mConsU m ms env) K = R := by
  rw [← k]; unfold mConsU mFrzS bnd
  cases m env with
  | none => rfl
  | some p =>
    simp only [Option.bind_some]
    cases frzS p with
    | none => rfl
    | some q =>
      simp only [Option.bind_some]
      cases ms q.2 <;> rfl
theorem c_frzSD {d : PyData} (k : K (.dat d) e = R) : bnd (frzS (.dat d, e)) K = R := k
end
theorem c_fm {τ : Type} {np n : Nat} {mb : MS} {ins : Sl} {Y : Option τ} {oR : τ → Res} {eR : τ → Sl} {out : τ → Res × Sl} (env : Sl) (h1 : ins.length = np) (h2 : ins ++ List.replicate (n - np) .no = env)
    (k : bnd (mb env) (fun f e => some (f, e)) = Y.bind fun z => some (.rt (oR z), eR z)) (h3 : ∀ z, finR (.rt (oR z), eR z) = some (out z).1) (h4 : ∀ z, ioKept ins (eR z) = true) (h5 : ∀ z, (eR z).take np = (out z).2) : fmOf np n mb ins = Y.map out := by
  have hk : mb env = Y.map fun z => (Fl.rt (oR z), eR z) := c_map k
  unfold fmOf
  rw [if_pos h1, h2, hk]
  cases Y with
  | none => rfl
  | some z =>
    simp only [Option.map_some, Option.bind_some, h3, h4, if_true, h5]
section
variable {β γ τ : Type} {e e2 : Sl} {i : Nat} {k : τ → Option γ} {h : γ → Option β}
theorem c_setDL {K : Fl → Sl → Option β} (enc : τ → PyData) (v : τ) (E : τ → Sl) (hs : ∀ x, e.set i (.val (enc x)) = E x) (p : ∀ x, K .nx (E x) = (k x).bind h) : setK i (.dat (enc v)) e K = ((some v).bind k).bind h := by
  show K .nx (e.set i (.val (enc v))) = _
  rw [hs]; exact p v
theorem c_setNL {τ : Type} {k : List τ → Option γ} {K : Fl → Sl → Option β} (enc : τ → PyData) (v : List τ) (E : List τ → Sl) (hs : ∀ x, e.set i (.own (.lst (x.map enc))) = E x) (p : ∀ x, K .nx (E x) = (k x).bind h) : setK i (.new (.lst (v.map enc))) e K = ((some v).bind k).bind h := by
  show K .nx (e.set i (.own (.lst (v.map enc)))) = _
  rw [hs]; exact p v
theorem c_augL {K : Fl → Sl → Option β} {k : Int → Option γ} {x y : Int} {f : Int → Int → Int} (E : Int → Sl) (hs : ∀ z, e.set i (.val (.int z)) = E z) (p : ∀ z, K .nx (E z) = (k z).bind h) : augK i x f (.dat (.int y)) e K = ((some (f x y)).bind k).bind h := by
  show K .nx (e.set i (.val (.int (f x y)))) = _
  rw [hs]; exact p _
theorem c_mutP {K : Res → Sl → Option β} {f : List PyData → List PyData → Option (List PyData × PyData)} {s : Slot} {rs : List Res} {Y : Option τ} {o : τ → List PyData × PyData} (es ds : List PyData) (E : τ → Sl) (h1 : dats rs = some es) (h2 : lstAt e i = some (s, ds)) (q : f ds es = Y.map o) (hE : ∀ z, e.set i (s.put (.lst (o z).1)) = E z) (p : ∀ z, K (.dat (o z).2) (E z) = (k z).bind h) : mutK i f rs e K = (Y.bind k).bind h := by
  unfold mutK; rw [h1, h2]
  simp only [Option.bind_some, q]
  cases Y with
  | none => rfl
  | some z =>
    show K (.dat (o z).2) (e.set i (s.put (.lst (o z).1))) = _
    rw [hE]; exact p z
theorem c_gsubP {α : Type} {K : Sl → Option β} {k : List α → Option γ} (ec : α → PyData) (l : List α) (x : α) {z : Int} {s : Slot} (E : List α → Sl) (h1 : lstAt e i = some (s, l.map ec)) (hE : ∀ l', e.set i (s.put (.lst (l'.map ec))) = E l') (p : ∀ l', K (E l') = (k l').bind h) : subK i (ec x) (.dat (.int z)) e K = ((pSet l z x).bind k).bind h :=
  c_gsubK h1 fun l' => by rw [hE]; exact p l'
end
def maxI (i j : Int) : Int := if j > i then j else i
def absI (i : Int) : Int := if i < 0 then -i else i
theorem x_eqI0 {a b : Int} : gEq false (.int a) (.int b) = some (.dat (.bool (decide (a = b)))) := by rw [x_eqI, Bool.false_xor]
theorem x_eqS0 {a b : Str} : gEq false (.str a) (.str b) = some (.dat (.bool (decide (a = b)))) := by rw [x_eqS, Bool.false_xor]
theorem x_eqS1 {a b : Str} : gEq true (.str a) (.str b) = some (.dat (.bool (!decide (a = b)))) := by rw [x_eqS, Bool.true_xor]
theorem x_eqB0 {a b : Bool} : gEq false (.bool a) (.bool b) = some (.dat (.bool (decide (a = b)))) := by rw [x_eqB, Bool.false_xor]
theorem x_eqB1 {a b : Bool} : gEq true (.bool a) (.bool b) = some (.dat (.bool (!decide (a = b)))) := by rw [x_eqB, Bool.true_xor]
theorem c_stepM {α τ : Type} {g : MG} {t : MT} {me : ME} {vs : List Nat} {e : Sl} {d : PyData} {Y : Option τ} {out : τ → Option PyData × Sl} (k : (g d e).bind (fun e1 => bnd (t e1) fun c e2 => bnd (if c = true then bnd (me e2) (fun r e => bnd (frz (r, e)) fun r e => lcElt vs r e) else some (none, wipeS e2 vs)) fun x e => some (x, e)) = Y.bind fun z => some (out z)) : lcStep g t me vs d e = Y.map out := by
  have h : lcStep g t me vs d e = Y.bind fun z => some (out z) := k
  rw [h]; cases Y <;> rfl
theorem c_chainT {β : Type} {K : Res → Sl → Option β} {R : Option β} {g' : PyData → PyData → Option Res} {mc : ME} {e : Sl} {r2 : Res} {dy dz : PyData} {b c : Bool} (h3 : mc e = some (.dat dz, e)) (h4 : rdv e (stab r2) = some dy) (h6 : g' dy dz = some (.dat (.bool c))) (k : K (.dat (.bool (b && c))) e = R) : bnd (if b = true then (mc e).bind (fun t => (rdv t.2 (stab r2)).bind fun dy => (rdv t.2 (stab t.1)).bind fun dz => (g' dy dz).map fun r => (r, t.2)) else some (.dat (.bool false), e)) K = R := by
  have hz : rdv e (stab (.dat dz)) = some dz := rfl
  cases b
  · exact k
  · simp only [if_true, h3, Option.bind_some, h4, hz, h6, Option.map_some]
    exact k
section
variable {β γ : Type} {env e : Sl} {R : Option β} {m : ME} {ms : MA} {K : Res → Sl → Option β}
end
end Cm
namespace Cm
open PySem L2
section
variable {α β γ ρ σ τ : Type}
def Wp (x : Option α) (Q : α → Prop) : Prop := ∃ a, x = some a ∧ Q a
theorem wp_eq {x : Option α} {a : α} {Q : α → Prop} (h : x = some a) (q : Q a) : Wp x Q := ⟨a, h, q⟩
theorem wp_some {a : α} {Q : α → Prop} (q : Q a) : Wp (some a) Q := ⟨a, rfl, q⟩
theorem wp_mono {x : Option α} {Q Q' : α → Prop} (h : Wp x Q) (k : ∀ a, Q a → Q' a) : Wp x Q' := let ⟨a, e, q⟩ := h; ⟨a, e, k a q⟩
theorem wp_bind {x : Option α} {f : α → Option β} {R : α → Prop} {Q : β → Prop} (h : Wp x R) (k : ∀ a, R a → Wp (f a) Q) : Wp (x.bind f) Q := by
  obtain ⟨a, rfl, q⟩ := h
  exact k a q
theorem wp_let {v : α} {f : α → Option β} {Q : β → Prop} (k : Wp (f v) Q) : Wp ((some v).bind f) Q := k
theorem wp_be {x : Option α} {v : α} {f : α → Option β} {Q : β → Prop} (h : x = some v) (k : Wp (f v) Q) : Wp (x.bind f) Q := by
  subst h; exact k
theorem wp_if {c : Bool} {a b : Option α} {Q : α → Prop} (h1 : c = true → Wp a Q) (h2 : c = false → Wp b Q) : Wp (if c = true then a else b) Q := by
  cases c
  · exact h2 rfl
  · exact h1 rfl
theorem wp_ifd {p : Prop} [Decidable p] {a b : Option α} {Q : α → Prop} (h1 : p → Wp a Q) (h2 : ¬ p → Wp b Q) : Wp (if decide p = true then a else b) Q := by
  by_cases h : p
  · simpa [h] using h1 h
  · simpa [h] using h2 h
theorem wp_t {c : Bool} {a b : Option α} {Q : α → Prop} (h : c = true) (k : Wp a Q) : Wp (if c = true then a else b) Q := by
  rw [if_pos h]; exact k
theorem wp_f {c : Bool} {a b : Option α} {Q : α → Prop} (h : c = false) (k : Wp b Q) : Wp (if c = true then a else b) Q := by
  rw [h]; exact k
theorem gd_eq {p : Prop} [Decidable p] (h : p) : gd p = some () := if_pos h
theorem mul_eq {i j : Int} (h : (-(2 ^ 64) < i ∧ i < 2 ^ 64) ∨ (-(2 ^ 64) < j ∧ j < 2 ^ 64)) : pMul i j = some (i * j) := if_pos h
theorem div_eq {i j : Int} (h : 0 < j ∧ j < 1073741824) : pDiv i j = some (i / j) := if_pos h
theorem mod_eq {i j : Int} (h : 0 < j) : pMod i j = some (i % j) := if_pos h
theorem absI_nn (i : Int) : 0 ≤ absI i := by unfold absI; split <;> omega
theorem ix_eq {l : List α} {i : Int} {z : α} (h0 : 0 ≤ i) (h : l[i.toNat]? = some z) : pIx l i = some z := by
  have hl := (List.getElem?_eq_some_iff.mp h).1
  unfold pIx atI ixN
  rw [if_pos h0, if_pos (by omega)]
  exact h
theorem ix_wp {l : List α} {i : Int} (h0 : 0 ≤ i) (h1 : i < (l.length : Int)) : Wp (pIx l i) fun z => l[i.toNat]? = some z ∧ z ∈ l := by
  have hl : i.toNat < l.length := by omega
  have h : l[i.toNat]? = some l[i.toNat] := List.getElem?_eq_getElem hl
  exact ⟨_, ix_eq h0 h, h, List.getElem_mem hl⟩
theorem set_eq {l : List α} {i : Int} {x : α} (h0 : 0 ≤ i) (h1 : i < (l.length : Int)) : pSet l i x = some (l.set i.toNat x) := by
  unfold pSet ixN
  rw [if_pos h0, if_pos h1]
  rfl
theorem rng_eq {n : Int} (h : -(2 ^ 62) ≤ n ∧ n < 2 ^ 62) : pRng n = some (rangeI n) := if_pos h
theorem rangeI_len (n : Int) : (rangeI n).length = n.toNat := by simp [rangeI]
theorem rangeI_mem {n x : Int} (h : x ∈ rangeI n) : 0 ≤ x ∧ x < n := by
  unfold rangeI at h
  obtain ⟨k, hk, rfl⟩ := List.mem_map.mp h
  have := List.mem_range.mp hk
  omega
theorem enumI_get : ∀ {l : List α} {n j : Nat} {x : Int × α}, (enumI n l)[j]? = some x → x.1 = ((n + j : Nat) : Int) ∧ l[j]? = some x.2
  | [], _, _, _, h => by simp [enumI] at h
  | a :: l, n, 0, x, h => by
    simp [enumI] at h
    subst h
    exact ⟨by simp, rfl⟩
  | a :: l, n, j + 1, x, h => by
    have h2 : (enumI (n + 1) l)[j]? = some x := by simpa [enumI] using h
    obtain ⟨h3, h4⟩ := enumI_get h2
    exact ⟨by rw [h3]; omega, by simpa using h4⟩
theorem wp_for {body : α → σ → Option σ} (I : Nat → σ → Prop) : ∀ {xs : List α} {s : σ} {n : Nat}, I n s → (∀ (j : Nat) x s, xs[j]? = some x → I (n + j) s → Wp (body x s) (I (n + j + 1))) → Wp (forP body xs s) (I (n + xs.length))
  | [], s, n, h0, _ => ⟨s, rfl, h0⟩
  | x :: xs, s, n, h0, hb => by
    refine wp_bind (hb 0 x s rfl h0) fun s' h' => ?_
    have := wp_for (body := body) I (xs := xs) (s := s') (n := n + 1) h' fun j y s hy hi => by
      have h1 := hb (j + 1) y s (by simpa using hy) (by rw [show n + (j + 1) = n + 1 + j by omega]; exact hi)
      rw [show n + (j + 1) + 1 = n + 1 + j + 1 by omega] at h1
      exact h1
    rw [List.length_cons, show n + (xs.length + 1) = n + 1 + xs.length by omega]
    exact this
theorem wp_loop {body : α → σ → Option σ} {xs : List α} {s : σ} (I : Nat → σ → Prop) (h0 : I 0 s) (hb : ∀ (j : Nat) x s, xs[j]? = some x → I j s → Wp (body x s) (I (j + 1))) : Wp (forP body xs s) (I xs.length) := by
  have := wp_for (body := body) I (xs := xs) (s := s) (n := 0) h0 fun j x s hx hi => by
    rw [Nat.zero_add] at hi ⊢
    exact hb j x s hx hi
  rwa [Nat.zero_add] at this
theorem wp_forR {body : α → σ → Option (Fw ρ σ)} (I : Nat → σ → Prop) : ∀ {xs : List α} {s : σ} {n : Nat}, I n s → (∀ (j : Nat) x s, xs[j]? = some x → I (n + j) s → Wp (body x s) fun w => ∃ s', w = .nx s' ∧ I (n + j + 1) s') → Wp (forR body xs s) fun w => ∃ s', w = .nx s' ∧ I (n + xs.length) s'
  | [], s, n, h0, _ => ⟨.nx s, rfl, s, rfl, h0⟩
  | x :: xs, s, n, h0, hb => by
    refine wp_bind (hb 0 x s rfl h0) fun w hw => ?_
    obtain ⟨s', rfl, h'⟩ := hw
    have := wp_forR (body := body) I (xs := xs) (s := s') (n := n + 1) h' fun j y s hy hi => by
      have h1 := hb (j + 1) y s (by simpa using hy) (by rw [show n + (j + 1) = n + 1 + j by omega]; exact hi)
      rw [show n + (j + 1) + 1 = n + 1 + j + 1 by omega] at h1
      exact h1
    rw [List.length_cons, show n + (xs.length + 1) = n + 1 + xs.length by omega]
    exact this
theorem wp_loopR {body : α → σ → Option (Fw ρ σ)} {xs : List α} {s : σ} (I : Nat → σ → Prop) (h0 : I 0 s) (hb : ∀ (j : Nat) x s, xs[j]? = some x → I j s → Wp (body x s) fun w => ∃ s', w = .nx s' ∧ I (j + 1) s') : Wp (forR body xs s) fun w => ∃ s', w = .nx s' ∧ I xs.length s' := by
  have := wp_forR (body := body) I (xs := xs) (s := s) (n := 0) h0 fun j x s hx hi => by
    rw [Nat.zero_add] at hi ⊢
    exact hb j x s hx hi
  rwa [Nat.zero_add] at this
theorem mapO_eq {f : α → Option τ} {g : α → τ} : ∀ {xs : List α}, (∀ x ∈ xs, f x = some (g x)) → mapO f xs = some (xs.map g)
  | [], _ => rfl
  | x :: xs, h => by
    show (f x).bind _ = _
    rw [h x List.mem_cons_self, Option.bind_some, mapO_eq fun y hy => h y (List.mem_cons_of_mem _ hy)]
    rfl
end
def Bok (b : List Int) (n : Int) : Prop := ∃ a v c : Int, b = [a, v, c] ∧ 0 ≤ a ∧ 0 ≤ c ∧ c ≤ n
theorem Bok.mono {b : List Int} {n k : Int} (h : Bok b n) (e : n ≤ k) : Bok b k := let ⟨a, v, c, h1, h2, h3, h4⟩ := h; ⟨a, v, c, h1, h2, h3, Int.le_trans h4 e⟩
theorem all_trues {l : List Bool} (h : ∀ b ∈ l, b = true) : l.all id = true := by
  rw [List.all_eq_true]; exact h
section
variable {α : Type}
theorem cutL_to (l : List α) (k : Nat) : cutL l none (some (k : Int)) = l.take k := by
  unfold cutL
  rw [HT.sIx_nat, HT.sIx_none]
  simp only [List.drop_zero, Nat.sub_zero]
  by_cases h : k ≤ l.length
  · rw [Nat.min_eq_left h]
  · rw [Nat.min_eq_right (by omega), List.take_of_length_le (Nat.le_refl _), List.take_of_length_le (by omega)]
theorem cutL_len (l : List α) (lo hi : Option Int) : (cutL l lo hi).length ≤ l.length := by
  unfold cutL
  rw [List.length_take, List.length_drop]
  omega
end
end Cm
namespace Cm
open PySem L2
section
variable {X : Cx} {K : PySem.W.Frag}
def gSlS : PyData → Option Int → Option Int → Option Res
  | .str z, lo, hi => if z.length ≤ 100000 then some (.dat (.str (cutS z lo hi))) else none
  | _, _, _ => none
theorem sd_str : SlD K rSlS gSlS := by
  intro Hk H x dx lo hi res Q e vx h q
  unfold gSlS at h
  split at h
  · split at h
    · rename_i hz
      cases h
      exact ⟨_, vx.str, sz_of hz, q _ _ (.inl ⟨rfl, .str _⟩)⟩
    · cases h
  · cases h
def gInS (neg : Bool) : PyData → PyData → Option Res
  | .str x, .str y => match x.cps.toList with
    | [c] => some (.dat (.bool (neg ^^ decide (c ∈ y.cps.toList))))
    | _ => none
  | _, _ => none
theorem one_sign {x : Str} {c : Nat} (h : x.cps.toList = [c]) : x = ⟨#[c]⟩ := by
  cases x with
  | mk cps =>
    congr 1
    apply Array.ext'
    exact h
theorem od_ins : OpD K rInS (gInS false) := by
  intro Hk H x y dx dy res Q e vx vy h q
  unfold gInS at h
  split at h
  · split at h
    · rename_i c hc
      cases h
      rw [one_sign hc] at vx
      rw [Bool.false_xor] at q
      exact ⟨c, _, vx.str, vy.str, q _ _ (.inl ⟨rfl, .bl _⟩)⟩
    · cases h
  · cases h
def gPartition : PyData → List PyData → Option Res
  | .str a, [.str b] => if (b.length == 0) = false ∧ a.length ≤ 100000 then some (.dat (.tuple [.str (Txt.partition a b).1, .str (Txt.partition a b).2.1, .str (Txt.partition a b).2.2])) else none
  | _, _ => none
theorem mtd_partition : MtD K (fun x xs H Q => ∃ a b, x = .str a ∧ xs = [.str b] ∧ (b.length == 0) = false ∧ a.length ≤ sizeLine ∧
    ∀ p, H p = none → Q (.ref p) (upd H p (.tup [.str (Txt.partition a b).1, .str (Txt.partition a b).2.1, .str (Txt.partition a b).2.2]))) gPartition := by
  intro Hk H x vs d ds res Q e hx hv h q
  unfold gPartition at h
  split at h
  · split at h
    · rename_i hz
      cases h
      cases hv with
      | cons v1 v2 =>
        cases v2
        exact ⟨_, _, hx.str, by rw [v1.str], hz.1, sz_of hz.2, fun p hp => q _ _ (.inr ⟨p, _, _, rfl, rfl, hp, rfl, .cons (.str _) (.cons (.str _) (.cons (.str _) .nil))⟩)⟩
    · cases h
  · cases h
def strsD : List PyData → Option (List Str)
  | [] => some []
  | .str i :: ds => (strsD ds).map (i :: ·)
  | _ => none
theorem strsD_map : ∀ l : List Str, strsD (l.map .str) = some l
  | [] => rfl
  | x :: l => by
    show (strsD (l.map .str)).map (x :: ·) = _
    rw [strsD_map l]; rfl
theorem strs_dv {Hk : Hp} : ∀ {ds : List PyData} {vs : List V} {ns : List Str}, DvAll K Hk vs ds → strsD ds = some ns → vs = ns.map V.str
  | [], _, ns, .nil, h => by cases h; rfl
  | .str i :: ds, _, ns, .cons h1 h2, h => by
    obtain ⟨ms, e1, rfl⟩ := Option.map_eq_some_iff.mp h
    cases h1
    rw [strs_dv h2 e1]
    rfl
  | .none :: ds, _, ns, .cons h1 h2, h => by cases h
  | .bool _ :: ds, _, ns, .cons h1 h2, h => by cases h
  | .int _ :: ds, _, ns, .cons h1 h2, h => by cases h
  | .list _ :: ds, _, ns, .cons h1 h2, h => by cases h
  | .tuple _ :: ds, _, ns, .cons h1 h2, h => by cases h
  | .dict _ :: ds, _, ns, .cons h1 h2, h => by cases h
def gJoin : PyData → List PyData → Option Res
  | .str a, [.list ds] => (strsD ds).bind fun ys => if (ys.map (·.length)).sum + ys.length * a.length ≤ 16777216 then some (.dat (.str (Txt.join a ys))) else none
  | .str a, [.tuple ds] => (strsD ds).bind fun ys => if (ys.map (·.length)).sum + ys.length * a.length ≤ 16777216 then some (.dat (.str (Txt.join a ys))) else none
  | _, _ => none
theorem mtd_join : MtD K (fun x xs H Q => ∃ a p, ∃ ys : List Str, x = .str a ∧ xs = [.ref p] ∧ (SqL K H p (ys.map V.str) ∨ SqT K H p (ys.map V.str)) ∧
    (ys.map (·.length)).sum + ys.length * a.length ≤ 16777216 ∧ Q (.str (Txt.join a ys)) H) gJoin := by
  intro Hk H x vs d ds res Q e hx hv h q
  unfold gJoin at h
  split at h
  · obtain ⟨ys, h1, h2⟩ := Option.bind_eq_some_iff.mp h
    split at h2
    · rename_i hz
      cases h2
      cases hv with
      | cons v1 v2 =>
        cases v2
        obtain ⟨p, ws, rfl, g1, g2⟩ := v1.list e
        rw [strs_dv g2 h1] at g1
        exact ⟨_, p, ys, hx.str, rfl, .inl (SqL.of g1), hz, q _ _ (.inl ⟨rfl, .str _⟩)⟩
    · cases h2
  · obtain ⟨ys, h1, h2⟩ := Option.bind_eq_some_iff.mp h
    split at h2
    · rename_i hz
      cases h2
      cases hv with
      | cons v1 v2 =>
        cases v2
        obtain ⟨p, ws, rfl, g1, g2⟩ := v1.tup e
        rw [strs_dv g2 h1] at g1
        exact ⟨_, p, ys, hx.str, rfl, .inr g1, hz, q _ _ (.inl ⟨rfl, .str _⟩)⟩
    · cases h2
  · cases h
def gFind : PyData → List PyData → Option Res
  | .str a, [.str b] => some (.dat (.int (Txt.find a b)))
  | _, _ => none
theorem mtd_find : MtD K (fun x xs H Q => ∃ a b, x = .str a ∧ xs = [.str b] ∧ Q (.int (Txt.find a b)) H) gFind := by
  intro Hk H x vs d ds res Q e hx hv h q
  unfold gFind at h
  split at h
  · cases h
    cases hv with
    | cons v1 v2 =>
      cases v2
      exact ⟨_, _, hx.str, by rw [v1.str], q _ _ (.inl ⟨rfl, .int _⟩)⟩
  · cases h
def signsD (x : Str) : List PyData := x.cps.toList.map fun c => .str ⟨#[c]⟩
def mItS (m : ME) : MI := fun env => (m env).bind fun p => match p.1 with
  | .dat (.str x) => some (signsD x, p.2)
  | _ => none
theorem iter_str {x : Str} {Hk : Hp} : IterOk K Hk (Its x) (signsD x) := by
  intro Hk2 H2 s2 e2 i
  refine ⟨fun d hd => ?_, fun hl => ?_⟩
  · unfold signsD at hd
    rw [List.getElem?_map] at hd
    obtain ⟨c, hc, rfl⟩ := Option.map_eq_some_iff.mp hd
    have hc' : x.cps[i]? = some c := by simpa using hc
    refine ⟨?_, fun v H' hv => ?_⟩
    · show i < x.cps.size
      by_cases h : i < x.cps.size
      · exact h
      · rw [Array.getElem?_eq_none (by omega)] at hc'
        cases hc'
    · obtain ⟨rfl, c', h1, rfl⟩ := hv
      rw [hc'] at h1
      cases h1
      exact .inl ⟨rfl, .str _⟩
  · show x.cps.size ≤ i
    simpa [signsD] using hl
theorem itS_run {m : ME} {σ : St} {H : Hp} {R : It → Hp → Prop} (h : tI K (mItS m) σ H R) : iStr (tE K m) σ H R := by
  obtain ⟨B, env, Hk, ds, env', R0, hm, k⟩ := h
  obtain ⟨⟨r, e1⟩, h1, hm⟩ := Option.bind_eq_some_iff.mp hm
  refine ⟨B, env, Hk, r, e1, R0, h1, fun v Hk1 H1 R1 s1 o1 => ?_⟩
  cases r with
  | new c => cases hm
  | slt i => cases hm
  | pv p => cases hm
  | dat d =>
    cases d with
    | str x =>
      cases hm
      cases o1
      exact ⟨x, rfl, k _ Hk1 H1 R1 s1 iter_str⟩
    | _ => cases hm
theorem vi_str {tg e : Expr} {m : ME} (he : VE X e m) : VI X tg e (mItS m) := (pi_str he).imp fun _ _ _ => itS_run
def mAugS (i : Nat) (m : ME) : MS := fun env => match env[i]? with
  | some (.val (.str a)) => (m env).bind fun p => match p.1 with
    | .dat (.str b) => if a.length + b.length ≤ 100000 then some (.nx, p.2.set i (.val (.str (a ++ b)))) else none
    | _ => none
  | _ => none
theorem augS_run {i : Nat} {m : ME} {W : WX} {D : Ends} {σ : St} {H : Hp} (h : tS K W (mAugS i m) D σ H) : tAug i (tE K m) (fun x y H Q => ∃ i j, x = .str i ∧ y = .str j ∧ i.length + j.length ≤ sizeLine ∧ Q (.str (i ++ j)) H) D σ H := by
  obtain ⟨B, env, Hk, fl, env', R, hm, k⟩ := h
  unfold mAugS at hm
  split at hm
  · rename_i a ha
    obtain ⟨⟨r, e1⟩, h1, hm⟩ := Option.bind_eq_some_iff.mp hm
    obtain ⟨o, g1, v, rfl, g2⟩ := R.slot i _ ha
    cases g2
    refine ⟨_, g1, B, env, Hk, r, e1, R, h1, fun w Hk1 H1 R1 s1 o1 => ?_⟩
    cases r with
    | new c => cases hm
    | slt i => cases hm
    | pv p => cases hm
    | dat d =>
      cases d with
      | str b =>
        dsimp only at hm
        split at hm
        · rename_i hz
          cases hm
          cases o1
          exact ⟨a, b, rfl, rfl, sz_of hz, k _ Hk1 H1 (R1.setVal (.str _)) s1⟩
        · cases hm
      | _ => cases hm
  · cases hm
theorem vs_augS {i : Nat} {x : Str} {e : Expr} {m : ME} {pos' pos : Pos} (hN : X.N.Nodup) (he : VE X e m) (hi : X.N[i]? = some x := by rfl) (hx : Loc X.env.scope x := by first | exact Or.inl rfl | exact Or.inr rfl) (hf : X.fn x = true ∨ X.env.scope.names.lookup x = some .local := by first | exact .inl rfl | exact .inr rfl | assumption) :
    VS X (.AugAssign (.Name x pos') .Add e pos) (mAugS i m) := fun W _ => (ps_aug hN hi hx he iop_add_str hf).imp fun _ _ _ => augS_run
end
def pSlS (z : Str) (lo hi : Option Int) : Option Str := if z.length ≤ 100000 then some (cutS z lo hi) else none
theorem x_slS {z : Str} {lo hi : Option Int} : gSlS (.str z) lo hi = (pSlS z lo hi).map (fun z => .dat (.str z)) := by
  simp only [gSlS, pSlS]; split <;> rfl
def pInS (neg : Bool) (x y : Str) : Option Bool := match x.cps.toList with
  | [c] => some (neg ^^ decide (c ∈ y.cps.toList))
  | _ => none
theorem x_inS {neg : Bool} {x y : Str} : gInS neg (.str x) (.str y) = (pInS neg x y).map (fun z => .dat (.bool z)) := by
  unfold gInS pInS
  dsimp only
  split <;> rfl
def pPartition (a b : Str) : Option (Str × Str × Str) := if (b.length == 0) = false ∧ a.length ≤ 100000 then some (Txt.partition a b) else none
theorem x_partition {a b : Str} : gPartition (.str a) [.str b] = (pPartition a b).map (fun z => .dat (eT3 eS eS eS z)) := by
  simp only [gPartition, pPartition]; split <;> rfl
def pJoin (a : Str) (ys : List Str) : Option Str := if (ys.map (·.length)).sum + ys.length * a.length ≤ 16777216 then some (Txt.join a ys) else none
theorem x_join {a : Str} {l : List Str} : gJoin (.str a) [.list (l.map .str)] = (pJoin a l).map (fun z => .dat (.str z)) := by
  simp only [gJoin, strsD_map, pJoin, Option.bind_some]; split <;> rfl
theorem x_find {a b : Str} : gFind (.str a) [.str b] = some (.dat (.int (Txt.find a b))) := rfl
def signs (x : Str) : List Str := x.cps.toList.map fun c => ⟨#[c]⟩
theorem signsD_eq (x : Str) : signsD x = (signs x).map eS := by
  unfold signsD signs
  rw [List.map_map]
  rfl
section
variable {β γ : Type} {env e e2 : Sl} {R : Option β} {m : ME} {ms : MA}
def itSK (r : Res) (e : Sl) (K : List PyData → Sl → Option β) : Option β := match r with
  | .dat (.str x) => K ((signs x).map eS) e
  | _ => none
theorem c_itS {K : List PyData → Sl → Option β} (k : bnd (m env) (fun r e => itSK r e K) = R) : bnd (mItS m env) K = R := by
  rw [← k]; unfold mItS bnd itSK
  cases m env with
  | none => rfl
  | some p =>
    cases p with
    | mk r e =>
      cases r with
      | dat d =>
        cases d with
        | str x =>
          show K (signsD x) e = K ((signs x).map eS) e
          rw [signsD_eq]
        | _ => rfl
      | _ => rfl
theorem c_itSK {K : List PyData → Sl → Option β} {x : Str} (k : K ((signs x).map eS) e = R) : itSK (.dat (.str x)) e K = R := k
def augSK (i : Nat) (a : Str) (r : Res) (e : Sl) (K : Fl → Sl → Option β) : Option β := match r with
  | .dat (.str b) => (pCatS a b).bind fun z => K .nx (e.set i (.val (.str z)))
  | _ => none
theorem c_augS {i : Nat} {x : Str} {K : Fl → Sl → Option β} (h : env[i]? = some (.val (.str x))) (k : bnd (m env) (fun r e => augSK i x r e K) = R) : bnd (mAugS i m env) K = R := by
  rw [← k]; unfold mAugS bnd augSK
  rw [h]
  simp only
  cases m env with
  | none => rfl
  | some p =>
    cases p with
    | mk r e =>
      cases r with
      | dat d =>
        cases d with
        | str b =>
          simp only [Option.bind_some, pCatS]
          split <;> rfl
        | _ => rfl
      | _ => rfl
theorem c_augSK {i : Nat} {x y : Str} {K : Fl → Sl → Option β} {k : Str → Option γ} {h : γ → Option β} (E : Str → Sl) (hs : ∀ z, e.set i (.val (.str z)) = E z) (p : ∀ z, K .nx (E z) = (k z).bind h) : augSK i x (.dat (.str y)) e K = ((pCatS x y).bind k).bind h := by
  show ((pCatS x y).bind fun z => K .nx (e.set i (.val (.str z)))) = _
  cases pCatS x y with
  | none => rfl
  | some z =>
    show K .nx (e.set i (.val (.str z))) = _
    rw [hs]; exact p z
end
def pLenD (d : PyData) : Option Int := match d with
  | .list ds => some ds.length
  | .tuple ds => some ds.length
  | .str x => if x.length ≤ 100000 then some x.length else none
  | _ => none
theorem x_lenD {d : PyData} : gLen [d] = (pLenD d).map (fun z => .dat (.int z)) := by
  cases d with
  | str x =>
    simp only [gLen, pLenD]
    split <;> rfl
  | _ => rfl
def pIsi (T : String) (d : PyData) : Option Bool := kitB (tyN d) T
def pIsi2 (S T : String) (d : PyData) : Option Bool := (kitB (tyN d) S).bind fun b => (kitB (tyN d) T).map fun c => (b || c)
section
variable {β γ : Type} {env e e2 : Sl} {R : Option β} {m : ME} {ms : MA} {K : Res → Sl → Option β}
def isiK (T : String) (r : Res) (e : Sl) (K : Res → Sl → Option β) : Option β := (rdv e (stab r)).bind fun d => (pIsi T d).bind fun b => K (.dat (.bool b)) e
theorem c_isi {T : String} (k : bnd (m env) (fun r e => isiK T r e K) = R) : bnd (mIsi T m env) K = R := by
  rw [← k]; unfold mIsi bnd isiK pIsi
  cases m env with
  | none => rfl
  | some p =>
    simp only [Option.bind_some]
    cases rdv p.2 (stab p.1) with
    | none => rfl
    | some d =>
      simp only [Option.bind_some]
      cases kitB (tyN d) T <;> rfl
theorem c_isiK {T : String} {r : Res} {d : PyData} {k : Bool → Option γ} {h : γ → Option β} (h1 : rdv e (stab r) = some d) (p : ∀ b, K (.dat (.bool b)) e = (k b).bind h) : isiK T r e K = ((pIsi T d).bind k).bind h := by
  unfold isiK; rw [h1]
  show ((pIsi T d).bind fun b => K (.dat (.bool b)) e) = _
  cases pIsi T d with
  | none => rfl
  | some b => exact p b
def isi2K (S T : String) (r : Res) (e : Sl) (K : Res → Sl → Option β) : Option β := (rdv e (stab r)).bind fun d => (pIsi2 S T d).bind fun b => K (.dat (.bool b)) e
theorem c_isi2 {S T : String} (k : bnd (m env) (fun r e => isi2K S T r e K) = R) : bnd (mIsi2 S T m env) K = R := by
  rw [← k]; unfold mIsi2 bnd isi2K pIsi2
  cases m env with
  | none => rfl
  | some p =>
    simp only [Option.bind_some]
    cases rdv p.2 (stab p.1) with
    | none => rfl
    | some d =>
      simp only [Option.bind_some]
      cases kitB (tyN d) S with
      | none => rfl
      | some b =>
        simp only [Option.bind_some]
        cases kitB (tyN d) T <;> rfl
theorem c_isi2K {S T : String} {r : Res} {d : PyData} {k : Bool → Option γ} {h : γ → Option β} (h1 : rdv e (stab r) = some d) (p : ∀ b, K (.dat (.bool b)) e = (k b).bind h) : isi2K S T r e K = ((pIsi2 S T d).bind k).bind h := by
  unfold isi2K; rw [h1]
  show ((pIsi2 S T d).bind fun b => K (.dat (.bool b)) e) = _
  cases pIsi2 S T d with
  | none => rfl
  | some b => exact p b
end
section
variable {X : Cx} {K : PySem.W.Frag}
def zipA (x y : PyData) : Option (List PyData) := match x, y with
  | .list xs, .list ys => some (zipD xs ys)
  | .tuple xs, .tuple ys => some (zipD xs ys)
  | _, _ => none
def mZipA (ms : MA) : MI := fun env => (ms env).bind fun p => match p.1 with
  | [.dat x, .dat y] => (zipA x y).map fun ds => (ds, p.2)
  | _ => none
theorem zipA_run {ms : MA} {σ : St} {H : Hp} {R : It → Hp → Prop} (h : tI K (mZipA ms) σ H R) : RZ.iZipA K (tA K ms) σ H R := by
  obtain ⟨B, env, Hk, ds, env', R0, hm, k⟩ := h
  obtain ⟨⟨rs, e1⟩, h1, hm⟩ := Option.bind_eq_some_iff.mp hm
  refine ⟨B, env, Hk, rs, e1, R0, h1, fun vs Hk1 H1 R1 s1 o1 => ?_⟩
  split at hm
  · rename_i x y he
    obtain ⟨zs, hz, hm⟩ := Option.map_eq_some_iff.mp hm
    cases hm
    have he : rs = [.dat x, .dat y] := he
    subst he
    cases o1 with
    | cons o1 o2 =>
      cases o2 with
      | cons o2 o3 =>
        cases o3
        unfold zipA at hz
        split at hz
        · cases hz
          cases o1 with
          | lst g1 g2 =>
            cases o2 with
            | lst g3 g4 =>
              refine ⟨_, _, _, _, rfl, .inl ⟨SqL.of (R1.ex _ _ g1), SqL.of (R1.ex _ _ g3), k _ Hk1 H1 R1 s1 ?_⟩⟩
              intro Hk2 H2 s2 e2 i
              have w1 := SqL.of (K := K) (e2 _ _ (s2 _ _ g1))
              have w2 := SqL.of (K := K) (e2 _ _ (s2 _ _ g3))
              refine ⟨fun d hi => ?_, fun hl => ⟨_, _, w1, w2, by rw [g2.len, g4.len]; rw [zipD_len] at hl; omega⟩⟩
              obtain ⟨x, y, q1, q2, rfl⟩ := zipD_get _ _ i d hi
              obtain ⟨v, q3, q4⟩ := g2.get i x q1
              obtain ⟨u, q5, q6⟩ := g4.get i y q2
              refine ⟨⟨_, _, v, u, w1, w2, q3, q5⟩, fun z H' hz => ?_⟩
              obtain ⟨T, v', u', rfl, hT, rfl, hx, hy⟩ := hz
              have e3 := hx _ w1
              have e4 := hy _ w2
              rw [q3] at e3
              rw [q5] at e4
              cases e3
              cases e4
              exact .inr ⟨T, _, _, rfl, rfl, hT, rfl, .cons (dv_mono s2 _ _ q4) (.cons (dv_mono s2 _ _ q6) .nil)⟩
        · cases hz
          cases o1 with
          | tup g1 g2 =>
            cases o2 with
            | tup g3 g4 =>
              refine ⟨_, _, _, _, rfl, .inr ⟨same_tup R1.ex g1, same_tup R1.ex g3, k _ Hk1 H1 R1 s1 ?_⟩⟩
              intro Hk2 H2 s2 e2 i
              have w1 := same_tup e2 (same_tup s2 g1)
              have w2 := same_tup e2 (same_tup s2 g3)
              refine ⟨fun d hi => ?_, fun hl => ⟨_, _, w1, w2, by rw [g2.len, g4.len]; rw [zipD_len] at hl; omega⟩⟩
              obtain ⟨x, y, q1, q2, rfl⟩ := zipD_get _ _ i d hi
              obtain ⟨v, q3, q4⟩ := g2.get i x q1
              obtain ⟨u, q5, q6⟩ := g4.get i y q2
              refine ⟨⟨_, _, v, u, w1, w2, q3, q5⟩, fun z H' hz => ?_⟩
              obtain ⟨T, v', u', rfl, hT, rfl, hx, hy⟩ := hz
              have e3 := hx _ w1
              have e4 := hy _ w2
              rw [q3] at e3
              rw [q5] at e4
              cases e3
              cases e4
              exact .inr ⟨T, _, _, rfl, rfl, hT, rfl, .cons (dv_mono s2 _ _ q4) (.cons (dv_mono s2 _ _ q6) .nil)⟩
        · cases hz
  · cases hm
theorem vi_zipA {e e2 : Expr} {ms : MA} {p pos tpos : Pos} {elts : List Expr} {kk : Nat} (hm : X.mg "zip" = none) (ha : VA X [e, e2] ms) (hg : Gl X "zip" := by rfl)
    (hs : starEach [e, e2] X.env = (false, eval e X.env) :: starEach [e2] X.env := by rfl) (hpl : (backTo pos (starEach [e2] X.env)).any (·.1) = false := by rfl) :
    VI X (.Tuple elts kk tpos) (.Call (.Name "zip" p) [e, e2] [] pos) (mZipA ms) := (RZ.pi_zipA hg hm ha hs hpl).imp fun _ _ _ => zipA_run
end
section
variable {β γ : Type} {env e : Sl} {R : Option β} {ms : MA} {K : List PyData → Sl → Option β}
def pZipA (x y : PyData) : Option (List (PyData × PyData)) := match x, y with
  | .list xs, .list ys => some (xs.zip ys)
  | .tuple xs, .tuple ys => some (xs.zip ys)
  | _, _ => none
def zipAK (rs : List Res) (e : Sl) (K : List PyData → Sl → Option β) : Option β := match rs with
  | [.dat x, .dat y] => (pZipA x y).bind fun l => K (l.map (eT2 eD eD)) e
  | _ => none
theorem zipD_zip (xs ys : List PyData) : zipD xs ys = (xs.zip ys).map (eT2 eD eD) := by
  have := zip_map (e := eD) (f := eD) xs ys
  simpa using this
theorem c_zipA (k : bnd (ms env) (fun rs e => zipAK rs e K) = R) : bnd (mZipA ms env) K = R := by
  rw [← k]; unfold mZipA bnd zipAK
  cases ms env with
  | none => rfl
  | some p =>
    cases p with
    | mk rs e =>
      simp only [Option.bind_some]
      have hz : ∀ x y : PyData, ((zipA x y).map fun ds => (ds, e)).bind (fun p => K p.1 p.2) = (pZipA x y).bind fun l => K (l.map (eT2 eD eD)) e := fun x y => by
        unfold zipA pZipA
        cases x <;> cases y <;> simp [zipD_zip]
      rcases rs with _ | ⟨r1, _ | ⟨r2, _ | ⟨r3, rs⟩⟩⟩
      · rfl
      · cases r1 <;> rfl
      · cases r1 with
        | dat x =>
          cases r2 with
          | dat y => exact hz x y
          | _ => rfl
        | _ => rfl
      · cases r1 with
        | dat x => cases r2 <;> rfl
        | _ => rfl
theorem c_zipAK {x y : PyData} {rs : List Res} {k : List (PyData × PyData) → Option γ} {h : γ → Option β} (hr : rs = [.dat x, .dat y]) (p : ∀ l, K (l.map (eT2 eD eD)) e = (k l).bind h) : zipAK rs e K = ((pZipA x y).bind k).bind h := by
  subst hr
  show ((pZipA x y).bind fun l => K (l.map (eT2 eD eD)) e) = _
  cases pZipA x y with
  | none => rfl
  | some l => exact p l
end
def pIsN (neg : Bool) (d : PyData) : Bool := neg ^^ isNoneD d
theorem x_isND {neg : Bool} {d : PyData} : gIsN neg d .none = some (.dat (.bool (pIsN neg d))) := rfl
section
variable {X : Cx} {K : PySem.W.Frag}
end
section
variable {β γ : Type} {env e : Sl} {R : Option β} {m : ME} {ml mh ms : MO} {K : Res → Sl → Option β}
end
theorem x_isNO0 {α : Type} {e : α → PyData} {x : Option α} (h : ∀ x, isNoneD (e x) = false) : gIsN false (eO e x) .none = some (.dat (.bool x.isNone)) := by
  cases x with
  | none => rfl
  | some y => show some (Res.dat (.bool (false ^^ isNoneD (e y)))) = _; rw [h]; rfl
theorem kit_NoneType_list : kitB "NoneType" "list" = some false := by decide +kernel
theorem kit_NoneType_tuple : kitB "NoneType" "tuple" = some false := by decide +kernel
theorem kit_bool_bool : kitB "bool" "bool" = some true := by decide +kernel
theorem kit_bool_list : kitB "bool" "list" = some false := by decide +kernel
theorem kit_bool_tuple : kitB "bool" "tuple" = some false := by decide +kernel
theorem kit_int_bool : kitB "int" "bool" = some false := by decide +kernel
theorem kit_int_int : kitB "int" "int" = some true := by decide +kernel
theorem kit_int_str : kitB "int" "str" = some false := by decide +kernel
theorem kit_int_list : kitB "int" "list" = some false := by decide +kernel
theorem kit_int_tuple : kitB "int" "tuple" = some false := by decide +kernel
theorem kit_str_bool : kitB "str" "bool" = some false := by decide +kernel
theorem kit_str_str : kitB "str" "str" = some true := by decide +kernel
theorem kit_str_list : kitB "str" "list" = some false := by decide +kernel
theorem kit_str_tuple : kitB "str" "tuple" = some false := by decide +kernel
theorem kit_list_list : kitB "list" "list" = some true := by decide +kernel
theorem kit_list_tuple : kitB "list" "tuple" = some false := by decide +kernel
theorem kit_tuple_list : kitB "tuple" "list" = some false := by decide +kernel
theorem kit_tuple_tuple : kitB "tuple" "tuple" = some true := by decide +kernel
end Cm
namespace Cm
open PySem PySem.Spec PyProof.Rows L2
section
variable {Pg : Program} {W : World} {Ar : Around} {Er : Value → Shared → Prop} {S0 : Shared}
end
section
variable {X : Cx}
def rSetL (K : PySem.W.Frag) (w : World) : List V → Hp → VK → Prop := fun xs H Q => ∃ (l : Addr) (zs : List Int), xs = [.ref l] ∧ SqL K H l (zs.map V.int) ∧ zs.length ≤ 1000 ∧
  ∀ p c, H p = none → (∀ D : List Int, (∀ z ∈ zs, z ∈ D) → c ≤ D.length) → Q (.ref p) (upd H p (SetO w p (fun j => decide (j ∈ zs)) c))
end
section
variable {X : Cx} {K : PySem.W.Frag}
end
section
variable {β γ : Type} {env e : Sl} {R : Option β} {m : ME} {K : Res → Sl → Option β}
end
section
variable {β γ α' τ : Type} {α : Type} {K : α → α' → Option β}
theorem c_isN {x : Option τ} {a b : Option (α × α')} {A : Option γ} {B : τ → Option γ} {h : γ → Option β} (p : x = none → bnd a K = A.bind h) (q : ∀ v, x = some v → bnd b K = (B v).bind h) : bnd (if x.isNone = true then a else b) K = (x.elim A B).bind h := by
  cases x with
  | none => exact p rfl
  | some v => exact q v rfl
end
end Cm
namespace Cm
open PySem L2
section
variable {X : Cx} {K : PySem.W.Frag}
end
section
variable {β γ : Type} {env e e2 : Sl} {R : Option β} {m : ME} {K : Res → Sl → Option β} {i : Nat}
end
theorem flat_eO {α : Type} {e : α → PyData} {z : Option α} (h : ∀ x, flatD (e x) = true) : flatD (eO e z) = true := by
  cases z with
  | none => rfl
  | some x => exact h x
section
variable {X : Cx} {js : List Nat} {g : MG} {t : MT} {me : ME} {mi : MI} {pos : Pos}
end
end Cm
namespace Cm
open PySem L2
section
variable {X : Cx} {K : PySem.W.Frag}
end
section
variable {K : PySem.W.Frag}
end
end Cm
namespace Cm
open PySem L2
section
variable {X : Cx} {K : PySem.W.Frag}
end
end Cm
namespace Cm
open PySem L2
section
variable {X : Cx} {K : PySem.W.Frag}
end
section
variable {β γ : Type} {env e e2 : Sl} {R : Option β} {m : ME} {ms : MA} {K : List PyData → Sl → Option β} {ds : List PyData}
end
section
variable {K : PySem.W.Frag}
end
section
variable {α β γ δ ε : Type}
end
def asI : PyData → Option Int
  | .int i => some i
  | _ => none
section
variable {β γ τ : Type} {e e2 : Sl} {i : Nat} {K : Fl → Sl → Option β} {k : τ → Option γ} {h : γ → Option β} {R : Option β}
end
end Cm
namespace Cm
open PySem L2
def keyOf : PyData → Option Key
  | .int i => some (.inl i)
  | .str x => some (.inr x)
  | _ => none
def dGet (es : List (PyData × PyData)) (k : Key) : Option PyData := (es.find? fun p => decide (keyOf p.1 = some k)).map (·.2)
section
variable {K : PySem.W.Frag} {Hk H : Hp}
theorem View.key {v : V} {d : PyData} {k : Key} (h : View K Hk H v d) (e : keyOf d = some k) : v = kV k := by
  cases d with
  | int i => cases e; exact h.int
  | str x => cases e; exact h.str
  | _ => cases e
end
section
variable {X : Cx} {K : PySem.W.Frag}
end
section
variable {X : Cx} {K : PySem.W.Frag} {B : Fb} {env : Sl} {σ : St} {Hk : Kn} {H : Hp}
def Fb.hold (B : Fb) (p : Addr) (o : HO) : Fb := B.guard p o
theorem Rel.hold (R : Rel K B env σ Hk H) {p : Addr} {o : HO} (h : H p = none) : Rel K (B.hold p o) env σ Hk (upd H p o) :=
  (R.laid h).guard upd_same (R.kfree h) (R.fresh0 h) (R.pfree h) fun j s hj hm => R.mutNe h hj hm
inductive PrsAll (K : PySem.W.Frag) (Hk : Hp) : List (V × V) → List (PyData × PyData) → Prop
  | nil : PrsAll K Hk [] []
  | cons {v w : V} {k d : PyData} {ps : List (V × V)} {es : List (PyData × PyData)} : Dv K Hk v k → Dv K Hk w d → PrsAll K Hk ps es → PrsAll K Hk ((v, w) :: ps) ((k, d) :: es)
inductive VPs (X : Cx) : List (Option Expr) → List Expr → List (ME × ME) → Prop
  | nil : VPs X [] [] []
  | cons {k v : Expr} {mk mv : ME} {ks : List (Option Expr)} {vs : List Expr} {l : List (ME × ME)} : VE X k mk → VE X v mv → VPs X ks vs l → VPs X (some k :: ks) (v :: vs) ((mk, mv) :: l)
end
end Cm
namespace Cm
open PySem L2
section
variable {X : Cx} {K : PySem.W.Frag} {B : Fb} {env : Sl} {σ : St} {Hk : Kn} {H : Hp}
def lk : Res × Sl → Option (List (PyData × PyData) × Sl)
  | (.new (.dct es), e) => some (es, e)
  | (.slt i, e) => match e[i]? with
    | some (.own (.dct es)) => some (es, e.set i (.val (.dict es)))
    | _ => none
  | _ => none
theorem Rel.lk (R : Rel K B env σ Hk H) {r : Res} {v : V} {es : List (PyData × PyData)} {env' : Sl} (o : ResOk K B env σ Hk H r v) (h : Cm.lk (r, env) = some (es, env')) :
    ∃ d kvs, v = .ref d ∧ H d = some (.dK kvs) ∧ DvKv K Hk kvs es ∧ ∀ od, Rel K B env' σ (Hk.upd d (.frz od (.dK kvs))) (upd H d (.frz od (.dK kvs))) ∧ KSame Hk (Hk.upd d (.frz od (.dK kvs))) := by
  cases r with
  | dat d => cases h
  | pv p => cases h
  | new c =>
    cases c with
    | lst ds => cases h
    | dct es' =>
      cases h
      obtain ⟨a, rfl, h1, h2, ⟨kvs, h3, h4⟩, hP, h5⟩ := o
      refine ⟨a, kvs, rfl, h3, h4, fun od => ⟨?_, ksame_upd h1⟩⟩
      exact (R.other (u := .frz od (.dK kvs)) h1 h2 hP (fun x z => by rw [h3] at z; cases z) h5).know upd_same h1 h2 hP h5
  | slt i =>
    unfold Cm.lk at h
    have o : σ[i]? = some (some v) := o
    cases q : env[i]? with
    | none => simp only [q] at h; cases h
    | some s =>
      simp only [q] at h
      cases s with
      | no => cases h
      | scr ns => cases h
      | pin a => cases h
      | pv p => cases h
      | sto M => cases h
      | io k c => cases h
      | val d => cases h
      | own c =>
        cases c with
        | lst ds => cases h
        | dct es' =>
          cases h
          obtain ⟨o', g1, a, e1, q1, q2, kvs, q3, q4⟩ := R.slot i _ q
          rw [o] at g1
          cases g1
          cases e1
          refine ⟨a, kvs, rfl, q3, q4, fun od => ⟨?_, ksame_upd q1⟩⟩
          have hlt : i < σ.length := (List.getElem?_eq_some_iff.mp o).1
          have R1 : Rel K B (env.set i .no) σ Hk H := by
            have := R.setNo (i := i) (o := some (.ref a))
            rwa [show σ.set i (some (.ref a)) = σ from by
              apply List.ext_getElem?
              intro n
              by_cases e : i = n
              · subst e
                rw [List.getElem?_set_self hlt, o]
              · rw [List.getElem?_set_ne e]] at this
          have hn : ∀ (j : Nat) s, (env.set i .no)[j]? = some s → s.mut → σ[j]? ≠ some (some (V.ref a)) := fun j s hj hm z => by
            rcases set_get hj with ⟨rfl, rfl⟩ | ⟨hne, hj⟩
            · cases hm
            · exact hne (R.sep j i s _ a hj q hm trivial z o)
          have hP : ∀ (n : Nat), Hk.P n ≠ some a := fun n => R.psep i _ a n q trivial o
          have R2 := (R1.other (u := .frz od (.dK kvs)) q1 q2 hP (fun x z => by rw [q3] at z; cases z) hn).know upd_same q1 q2 hP hn
          have R3 := R2.setVal (i := i) (v := .ref a) (d := .dict es) (.dct (.inr ⟨od, show upd Hk.k a _ a = _ from upd_same⟩) (dvKv_mono (same_upd q1) q4))
          rw [List.set_set] at R3
          rwa [show σ.set i (some (.ref a)) = σ from by
            apply List.ext_getElem?
            intro n
            by_cases e : i = n
            · subst e
              rw [List.getElem?_set_self hlt, o]
            · rw [List.getElem?_set_ne e]] at R3
end
end Cm
namespace Cm
open PySem L2
section
variable {X : Cx} {K : PySem.W.Frag} {B : Fb} {env : Sl} {σ : St} {Hk : Kn} {H : Hp}
mutual
theorem dp_mono {H' : Hp} (e : Same H H') : ∀ {v : V} {d : PyData}, Dp K H v d → Dp K H' v d
  | _, _, .non => .non
  | _, _, .bl b => .bl b
  | _, _, .int i => .int i
  | _, _, .str x => .str x
  | _, _, .lst h q => .lst (e.seq h) (dpAll_mono e q)
  | _, _, .tup h q => .tup (same_tup e h) (dpAll_mono e q)
theorem dpAll_mono {H' : Hp} (e : Same H H') : ∀ {v : List V} {d : List PyData}, DpAll K H v d → DpAll K H' v d
  | _, _, .nil => .nil
  | _, _, .cons h1 h2 => .cons (dp_mono e h1) (dpAll_mono e h2)
end
end
end Cm
namespace Cm
open PySem L2
section
variable {P : Program} {w : World} {fd : FuncData} {x : Str}
def KX (P : Program) (w : World) (fd : FuncData) (x : Str) (e : Expr) (f : PyData → Option PyData) : Prop :=
  ∀ (s0 : Shared) (L a : Addr) (m : Str → Option Value) (u : Value) (d k : PyData), fd.scope.kind = .function → (callEnv fd L a).kindOf x = some .local → m x = some u → Reads s0.heap u d [] → f d = some k →
    ∀ (A : Around) (E : Value → Shared → Prop) (s : Shared) (Q : Value → Shared → Prop), InCall s0 L m s → (∀ v s', InCall s0 L m s' → (∀ b o, s.heap.get? b = some o → s'.heap.get? b = some o) → Reads s'.heap v k [] → Q v s') →
      wpAny (model P w) A (eval e (callEnv fd L a)) Q E s
end
mutual
def noL : PyData → Bool
  | .list _ => false
  | .dict _ => false
  | .tuple ds => noLs ds
  | _ => true
def noLs : List PyData → Bool
  | [] => true
  | d :: ds => noL d && noLs ds
end
section
variable {X : Cx} {K : PySem.W.Frag} {B : Fb} {env : Sl} {σ : St} {Hk H : Hp}
mutual
theorem reads0 {pins : List (Addr × Obj)} {s : Shared} (I : Inv X pins σ H s) : ∀ {v : V} {d : PyData}, Dv X.K H v d → noL d = true → ∀ u, RelV v u → Reads s.heap u d []
  | _, _, .non, _, u, r => by cases r; exact .none
  | _, _, .bl b, _, u, r => by cases r; exact .bool b
  | _, _, .int i, _, u, r => by obtain ⟨t, rfl⟩ := r; exact .int i t
  | _, _, .str x, _, u, r => by obtain ⟨t, rfl⟩ := r; exact .str x t
  | _, _, .lst _ _, h, _, _ => by simp [noL] at h
  | _, _, .dct _ _, h, _, _ => by simp [noL] at h
  | _, _, .tup h q, hn, u, r => by
    cases r
    obtain ⟨its, rv, ⟨o, g1, g2, n, g3⟩, _⟩ := I.tuple h
    exact .tuple g1 g2 g3 (readsAll0 I q (by simpa [noL] using hn) _ rv)
theorem readsAll0 {pins : List (Addr × Obj)} {s : Shared} (I : Inv X pins σ H s) : ∀ {vs : List V} {ds : List PyData}, DvAll X.K H vs ds → noLs ds = true → ∀ us, Vals vs us → ReadsAll s.heap us ds []
  | _, _, .nil, _, us, r => by cases r; exact .nil
  | _, _, .cons (d := d) (ds := ds) h1 h2, hn, us, r => by
    have hn : noL d = true ∧ noLs ds = true := by simpa [noLs] using hn
    cases r with
    | cons r1 r2 => exact .cons (bs := []) (reads0 I h1 hn.1 _ r1) (readsAll0 I h2 hn.2 _ r2)
end
end
end Cm
namespace Cm
open PySem L2
section
variable {α β : Type}
abbrev eP (ek : α → PyData) (ev : β → PyData) : α × β → PyData × PyData := fun p => (ek p.1, ev p.2)
abbrev eM (ek : α → PyData) (ev : β → PyData) : List (α × β) → PyData := fun l => .dict (l.map (eP ek ev))
def putL [DecidableEq α] (l : List (α × β)) (k : α) (v : β) : List (α × β) := if (l.any fun p => decide (p.1 = k)) = true then l.map (fun p => if p.1 = k then (p.1, v) else p) else l ++ [(k, v)]
structure KeyE (e : α → PyData) (kk : α → Key) : Prop where
  key : ∀ a, keyOf (e a) = some (kk a)
  inj : ∀ a b, kk a = kk b → a = b
  kd : ∀ a, keyD (kk a) = e a
variable [DecidableEq α] {ek : α → PyData} {ev : β → PyData} {kk : α → Key}
end
section
variable {τ : Type} {ev : τ → PyData}
end
section
variable {β γ δ : Type} {env e e1 e2 : Sl} {R : Option β} {i : Nat} {m mo mk mx : ME}
section
variable {K : Res → Sl → Option β}
end
section
variable {K : Res → Sl → Option β} {l : List (ME × ME)}
end
section
variable {K : Sl → Option β} {d : PyData}
end
section
variable {K : Fl → Sl → Option β} {j : Nat}
end
section
variable {K : List PyData → Sl → Option β}
end
section
variable {α τ : Type}
end
section
variable {K : Res → Sl → Option β}
end
end
section
variable {X : Cx} {js : List Nat} {g : MG} {t : MT} {me : ME} {mi : MI} {pos : Pos}
end
section
variable {α β γ δ ε ζ η : Type}
end
section
variable {β γ : Type} {env e e1 e2 : Sl} {R : Option β} {i : Nat} {mk mx : ME} {K : Res → Sl → Option β}
end
end Cm
namespace Cm
open PySem L2
section
variable {X : Cx} {K : PySem.W.Frag} {H Hk : Hp}
end
section
variable {α : Type}
end
end Cm
namespace Cm
open PySem L2
def lkL {β : Type} (L : List (Key × β)) (k : Key) : Option β := (L.find? fun p => decide (p.1 = k)).map (·.2)
def KD (w : World) (K : PySem.W.Frag) (a : Addr) (L : List (Key × PyData)) : Prop :=
  (a == sysModules) = false ∧ ∃ (o : Obj) (es : Array DictEntry) (ep : Nat), K.lookup a = some o ∧ o.ExactDict ∧ o.data = .dict es ep ∧ (∀ e ∈ es, ∃ k, keyIs k e.key = true ∧ e.hash = keyH w k) ∧
    ∀ k, (findBy keyIs es k = none ∧ lkL L k = none) ∨ ∃ u v d, findBy keyIs es k = some u ∧ RelV v u ∧ lkL L k = some d ∧ ∀ H, Dv K H v d
section
variable {X : Cx} {K : PySem.W.Frag} {a : Addr} {L : List (Key × PyData)} {x : Str} {i e : Expr} {ty : TE} {p pos apos cpos : Pos}
theorem KD.map {pins : List (Addr × Obj)} {σ : St} {H : Hp} {s : Shared} (D : KD X.w X.K a L) (I : Inv X pins σ H s) : ∃ f, s.heap.MapOf (mixKind X.prog X.w) a f ∧ ∀ k, (f k = none ∧ lkL L k = none) ∨ ∃ u v d, f k = some u ∧ RelV v u ∧ lkL L k = some d ∧ ∀ H, Dv X.K H v d := by
  obtain ⟨_, o, es, ep, h1, h2, h3, h4, h5⟩ := D
  exact ⟨findBy keyIs es, ⟨o, es, ep, I.kIn a o h1, h2, h3, h4, fun _ => rfl⟩, h5⟩
end
section
variable {τ γ β : Type} {ev : τ → PyData} {env e : Sl}
def kS : Key → Option Str
  | .inr s => some s
  | .inl _ => none
end
def rdK (K : PySem.W.Frag) : Nat → Value → Option PyData
  | 0 => fun _ => none
  | n + 1 => fun v => match v with
    | .none => some .none
    | .bool b => some (.bool b)
    | .int i _ => some (.int i)
    | .str x _ => some (.str x)
    | .ref a => match K.lookup a with
      | some ⟨.type c, _, .seq its _, _⟩ => if c = "tuple" ∧ its.size ≤ sizeLine then (mapO (rdK K n) its.toList).map .tuple else none
      | _ => none
    | _ => none
theorem rdKs_ok {K : PySem.W.Frag} {f : Value → Option PyData} (hf : ∀ u d, f u = some d → ∃ v, RelV v u ∧ ∀ H, Dv K H v d) : ∀ (us : List Value) (ds : List PyData), mapO f us = some ds → ∃ vs, Vals vs us ∧ ∀ H, DvAll K H vs ds
  | [], _, h => by cases h; exact ⟨[], .nil, fun _ => .nil⟩
  | u :: us, ds, h => by
    obtain ⟨d, h1, h⟩ := Option.bind_eq_some_iff.mp (show (f u).bind _ = _ from h)
    obtain ⟨ds', h2, rfl⟩ := Option.map_eq_some_iff.mp h
    obtain ⟨v, a1, a2⟩ := hf u d h1
    obtain ⟨vs, b1, b2⟩ := rdKs_ok hf us ds' h2
    exact ⟨v :: vs, .cons a1 b1, fun H => .cons (a2 H) (b2 H)⟩
theorem rdK_ok {K : PySem.W.Frag} : ∀ (n : Nat) (u : Value) (d : PyData), rdK K n u = some d → ∃ v, RelV v u ∧ ∀ H, Dv K H v d
  | 0, _, _, h => by cases h
  | n + 1, u, d, h => by
    cases u with
    | none => cases h; exact ⟨.non, rfl, fun _ => .non⟩
    | bool b => cases h; exact ⟨.bl b, rfl, fun _ => .bl b⟩
    | int i t => cases h; exact ⟨.int i, ⟨t, rfl⟩, fun _ => .int i⟩
    | str x t => cases h; exact ⟨.str x, ⟨t, rfl⟩, fun _ => .str x⟩
    | ref a =>
      unfold rdK at h
      dsimp only at h
      split at h
      · rename_i c od its ep sl hk
        split at h
        · rename_i hc
          obtain ⟨ds, h1, rfl⟩ := Option.map_eq_some_iff.mp h
          obtain ⟨vs, g1, g2⟩ := rdKs_ok (fun u d => rdK_ok n u d) its.toList ds h1
          exact ⟨.ref a, rfl, fun H => .tup (.inr ⟨_, its, ep, hk, by rw [hc.1], rfl, hc.2, g1⟩) (g2 H)⟩
        · cases h
      · cases h
    | _ => cases h
theorem rd_at {K : PySem.W.Frag} {n : Nat} {a : Addr} {d : PyData} (h : rdK K n (.ref a) = some d) (H : Hp) : Dv K H (.ref a) d := by
  obtain ⟨v, r, q⟩ := rdK_ok n _ d h
  cases v with
  | ref b =>
    have e : Value.ref a = Value.ref b := r
    cases e
    exact q H
  | _ => first | exact absurd (show Value.ref a = _ from r) (by simp) | (obtain ⟨t, e⟩ := (show ∃ t, Value.ref a = _ from r); cases e)
def kdE (K : PySem.W.Frag) : List DictEntry → Option (List (Int × Str × PyData))
  | [] => some []
  | e :: es => match e.key with
    | .str s _ => (rdK K 6 e.val).bind fun d => (kdE K es).map ((e.hash, s, d) :: ·)
    | _ => none
def kdO (K : PySem.W.Frag) (a : Addr) : Option (List (Int × Str × PyData)) := match K.lookup a with
  | some ⟨.type c, none, .dict es _, sl⟩ => if c = "dict" ∧ sl.size = 0 then kdE K es.toList else none
  | _ => none
def fixW (b : Bool) (w : World) : World := { w with params := { w.params with followText := fun s => if s = "special-get-raises" then b else w.params.followText s } }
theorem fixW_eq (w : World) : fixW (w.params.followText "special-get-raises") w = w := by
  unfold fixW
  have e : (fun s => if s = "special-get-raises" then w.params.followText "special-get-raises" else w.params.followText s) = w.params.followText := by
    funext s
    by_cases h : s = "special-get-raises"
    · rw [if_pos h, h]
    · rw [if_neg h]
  rw [e]
open He in
abbrev AlX : Type := AlD × List (Option PyData) × List (Bool × Option (List (Int × Str × PyData)))
section
open He
def obsX (fa : List Fa) (fn : List DefD) (ds : List (Str × PyData)) (kd : List (Str × List (Str × PyData))) (K : PySem.W.Frag) : AlX := (obsD fa fn K, ds.map (fun p => rdK K 6 (.ref (ga K p.1))), kd.map fun p => (ga K p.1 == sysModules, kdO K (ga K p.1)))
def valX (fn : List DefD) (ds : List (Str × PyData)) (kd : List (Str × List (Str × PyData))) (w : World) : AlX := (valD fn, ds.map (fun p => some p.2), kd.map fun p => (false, some (p.2.map fun q => (hashStr w q.1, q.1, q.2))))
def SaysX (fa : List Fa) (fn : List DefD) (ds : List (Str × PyData)) (kd : List (Str × List (Str × PyData))) (w : World) (K : PySem.W.Frag) : Prop := obsX fa fn ds kd K = valX fn ds kd w
def obsXG (n : Nat) (fa : List Fa) (fn : List DefD) (ds : List (Str × PyData)) (kd : List (Str × List (Str × PyData))) (g : Addr → Option Obj) : AlX := obsX fa fn ds kd (frG g (asD g n))
def hookX (n : Nat) (fa : List Fa) (fn : List DefD) (ds : List (Str × PyData)) (kd : List (Str × List (Str × PyData))) : PySem.W.Hook where
  α := AlX
  obs := fun s => obsXG n fa fn ds kd s.heap.get?
  val := fun w => valX fn ds kd w
  says := fun w h => ∃ K : PySem.W.Frag, K.In h ∧ SaysX fa fn ds kd w K
  of := fun _ _ e => ⟨_, frG_in, e⟩
  keeps := fun _ _ _ ⟨K, hK, c⟩ k => ⟨K, PySem.W.Frag.In.keeps hK k, c⟩
theorem obsXG_eq {n : Nat} {fa : List Fa} {fn : List DefD} {ds : List (Str × PyData)} {kd : List (Str × List (Str × PyData))} {g : Addr → Option Obj} {s : Shared} (h : ∀ a, g a = s.heap.get? a) : obsXG n fa fn ds kd g = (hookX n fa fn ds kd).obs s := by
  have e : g = s.heap.get? := funext h
  rw [e] <;> rfl
variable {fa : List Fa} {fn : List DefD} {ds : List (Str × PyData)} {kd : List (Str × List (Str × PyData))} {w : World} {K : PySem.W.Frag}
theorem SaysX.d (c : SaysX fa fn ds kd w K) : SaysD fa fn K := congrArg (fun z : AlX => z.1) c
theorem SaysX.dat (c : SaysX fa fn ds kd w K) (i : Nat) {p : Str × PyData} (h : ds[i]? = some p := by rfl) (H : Hp) : Dv K H (.ref (ga K p.1)) p.2 := by
  have e : ds.map (fun p => rdK K 6 (.ref (ga K p.1))) = ds.map (fun p => some p.2) := congrArg (fun z : AlX => z.2.1) c
  have e2 : (ds.map (fun p => rdK K 6 (.ref (ga K p.1))))[i]? = (ds.map (fun p => some p.2))[i]? := by rw [e]
  rw [List.getElem?_map, List.getElem?_map, h] at e2
  exact rd_at (Option.some.inj e2) H
end
end Cm
namespace Cm
open PySem L2
section
variable {X : Cx} {K : PySem.W.Frag}
def gIntS : List PyData → Option Res
  | [.str a] => if a.length ≤ 640 then (PySem.intText? a).map fun n => .dat (.int n) else none
  | _ => none
theorem cd_intS : CallD K (fun xs H Q => ∃ a n, xs = [.str a] ∧ PySem.intText? a = some n ∧ a.length ≤ 640 ∧ Q (.int n) H) gIntS := by
  intro Hk H vs ds res Q e hv h q
  unfold gIntS at h
  split at h
  · split at h
    · rename_i hz
      obtain ⟨n, h1, rfl⟩ := Option.map_eq_some_iff.mp h
      cases hv with
      | cons v1 v2 =>
        cases v2
        rw [v1.str]
        exact ⟨_, n, rfl, h1, hz, q _ _ (.inl ⟨rfl, .int _⟩)⟩
    · cases h
  · cases h
def pIntS (a : Str) : Option Int := if a.length ≤ 640 then PySem.intText? a else none
theorem x_intS {a : Str} : gIntS [.str a] = (pIntS a).map (fun z => .dat (.int z)) := by
  unfold pIntS
  show (if a.length ≤ 640 then (PySem.intText? a).map fun n => Res.dat (.int n) else none) = _
  split <;> rfl
def okMul (x : Str) (n : Int) : Bool := decide (-(2 ^ 62) < n) && decide (n < 2 ^ 62) && decide (x.length * n.toNat ≤ 100000)
theorem mul_ok {x : Str} {n : Int} (h : okMul x n = true) : MulOk x n := by
  unfold okMul at h
  simp only [Bool.and_eq_true, decide_eq_true_eq] at h
  obtain ⟨⟨h1, h2⟩, h3⟩ := h
  refine ⟨?_, fun g1 _ g3 => ?_, fun _ _ => ?_⟩
  · simp only [Bool.or_eq_false_iff, decide_eq_false_iff_not]
    omega
  · have e1 : ((x.length : Int) * n) = ((x.length * n.toNat : Nat) : Int) := by
      rw [Int.natCast_mul, Int.toNat_of_nonneg (by omega)]
    have h5 : (x.length : Int) * n ≤ 2 ^ 63 - 1 := by
      rw [e1]
      omega
    have := (Int.le_ediv_iff_mul_le (a := (x.length : Int)) (b := 2 ^ 63 - 1) (c := n) (by omega)).mpr h5
    omega
  · unfold Builtin.Str.tooLong
    have : x.length * n.toNat ≤ sizeLine := sz_of h3
    first | exact decide_eq_false (by omega) | (simp; omega)
def rMulS : R2 := fun x y H Q => ∃ a n, x = .str a ∧ y = .int n ∧ okMul a n = true ∧ Q (.str (Txt.mul a n)) H
theorem op_mulS : OpR X (binaryOp .Mult) rMulS := by
  intro pins s σ H x y v u Q I rx ry h
  obtain ⟨a, n, rfl, rfl, hk, q⟩ := h
  obtain ⟨t, rfl⟩ := rx
  obtain ⟨t', rfl⟩ := ry
  exact SB.mul (mul_ok hk) fun t2 k => ⟨.str _, H, I.tok _, ⟨_, rfl⟩, q⟩
def gMulS : PyData → PyData → Option Res
  | .str a, .int n => if okMul a n = true then some (.dat (.str (Txt.mul a n))) else none
  | _, _ => none
theorem od_mulS : OpD K rMulS gMulS := by
  intro Hk H x y dx dy res Q e vx vy h q
  unfold gMulS at h
  split at h
  · split at h
    · rename_i hz
      cases h
      exact ⟨_, _, vx.str, vy.int, hz, q _ _ (.inl ⟨rfl, .str _⟩)⟩
    · cases h
  · cases h
def pMulS (a : Str) (n : Int) : Option Str := if okMul a n = true then some (Txt.mul a n) else none
theorem x_mulS {a : Str} {n : Int} : gMulS (.str a) (.int n) = (pMulS a n).map (fun z => .dat (.str z)) := by
  unfold pMulS
  show (if okMul a n = true then _ else _) = _
  split <;> rfl
end
section
variable {X : Cx} {K : PySem.W.Frag}
end
section
variable {β γ : Type} {env e : Sl} {i : Nat} {f : Int → Int → Int} {m mi : ME} {K : Fl → Sl → Option β}
end
end Cm
namespace Cm
open PySem PySem.Spec PyProof.Rows L2
structure FnG (P : Program) (w : World) (K : PySem.W.Frag) (mg : Str → Option Value) (base : Heap) (k : Nat) (f : Addr) (fd : FuncData) (ps : List Str) (sp : Sp) : Prop where
  count : ∀ xs H Q E, sp xs H Q E → xs.length = ps.length
  goes : ∀ (A : Around) (fs : List Env) (s : Shared) (H : Hp) (args : Args) (ys : List Value) (xs : List V) (Q : VK) (E : XK), A.guards = some [] → Room k A → Env0 P w K mg base A fs s H →
    BindsTo s fd args (ps.zip ys) → Vals xs ys → sp xs H Q E → codeAny (model P w) A (.call (.ref f) args) (CR CX0 fs P w H s Q E) s
section
variable {P : Program} {w : World} {K : PySem.W.Frag} {mg : Str → Option Value} {base : Heap}
theorem FnG.of {k : Nat} {f : Addr} {fd : FuncData} {ps : List Str} {sp : Sp} (F : FnOk P w K mg base CX0 k f fd ps sp) : FnG P w K mg base k f fd ps sp :=
  ⟨F.len, fun A fs s H args ys xs Q E _ => F.run A fs s H args ys xs Q E⟩
theorem FnG.less {k : Nat} {f : Addr} {fd : FuncData} {ps : List Str} {sp sp' : Sp} (F : FnG P w K mg base k f fd ps sp) (i : ∀ xs H Q E, sp' xs H Q E → sp xs H Q E) : FnG P w K mg base k f fd ps sp' :=
  ⟨fun xs H Q E q => F.count xs H Q E (i xs H Q E q), fun A fs s H args ys xs Q E g r e b v q => F.goes A fs s H args ys xs Q E g r e b v (i xs H Q E q)⟩
theorem FnG.up {j k : Nat} {f : Addr} {fd : FuncData} {ps : List Str} {sp : Sp} (F : FnG P w K mg base j f fd ps sp) (h : j ≤ k) : FnG P w K mg base k f fd ps sp :=
  ⟨F.count, fun A fs s H args ys xs Q E g r => F.goes A fs s H args ys xs Q E g (r.mono h)⟩
end
section
variable {X : Cx} {K : PySem.W.Frag}
end
section
variable {X : Cx} {K : PySem.W.Frag}
end
section
variable {X : Cx} {k : Nat} {f : Addr} {fd : FuncData} {ps : List Str} {x : Str} {p pos : Pos} {e : Expr} {es : List Expr}
end
end Cm
namespace Cm
open PySem PySem.Spec PyProof.Rows L2
inductive Sc where
  | lst (a : Addr)
  | tup (a : Addr)
  | txt (x : Str)
def Sc.at (K : PySem.W.Frag) (H : Hp) : Sc → List V → Prop
  | .lst a, xs => SqL K H a xs
  | .tup a, xs => SqT K H a xs
  | .txt x, xs => xs = x.cps.toList.map fun c => V.str ⟨#[c]⟩
def Sc.val : Sc → V
  | .lst a => .ref a
  | .tup a => .ref a
  | .txt x => .str x
def Sc.it (h : Heap) (j : Addr) (i : Nat) : Sc → Prop
  | .lst a => h.IsListIter j a i
  | .tup a => h.IsTupleIter j a i
  | .txt x => ∃ t, h.IsStrIter j (strIterType x) x t i
theorem Sc.obj {c : Sc} {h : Heap} {j : Addr} {i : Nat} (st : c.it h j i) : ∃ o, h.get? j = some o ∧ ∀ v, o.data ≠ .cell v := by
  cases c with
  | lst a =>
    obtain ⟨o, e, _, d⟩ := st
    exact ⟨o, e, fun v z => by rw [d] at z; cases z⟩
  | tup a =>
    obtain ⟨o, e, _, d⟩ := st
    exact ⟨o, e, fun v z => by rw [d] at z; cases z⟩
  | txt x =>
    obtain ⟨t, o, e, _, d⟩ := st
    exact ⟨o, e, fun v z => by rw [d] at z; cases z⟩
section
variable {X : Cx} {pins : List (Addr × Obj)} {σ : L2.St} {H : Hp} {s : Shared}
end
def ZipTn (N : Nat) (c d : Sc) (xs ys : List V) (i : Nat) (h : Heap) : Prop :=
  i ≤ min xs.length ys.length ∧ IsZip h (N + 4) (N + 2) (N + 3) .none ∧ IsTupOf2 h (N + 2) (.ref N) (.ref (N + 1)) ∧ (∃ x y, IsTupOf2 h (N + 3) x y) ∧ c.it h N i ∧ d.it h (N + 1) i
theorem ZipTn.lt {N : Nat} {c d : Sc} {xs ys : List V} {i : Nat} {h : Heap} (st : ZipTn N c d xs ys i h) : N + 4 < h.objs.size := Heap.lt_size st.2.1
section
variable {X : Cx} {K : PySem.W.Frag}
end
section
variable {X : Cx} {K : PySem.W.Frag}
end
section
variable {β γ : Type} {env e : Sl} {R : Option β} {ms : MA} {K : List PyData → Sl → Option β}
end
end Cm
namespace Cm
open PySem PySem.Spec PyProof.Rows L2
section
variable {X : Cx} {pins : List (Addr × Obj)} {σ : L2.St} {H : Hp} {s : Shared} {A : Around} {E : Value → Shared → Prop} {a b : Addr} {kvs more : List (Key × V)}
end
section
variable {X : Cx} {K : PySem.W.Frag} {B : Fb} {env : Sl} {σ : L2.St} {Hk H : Hp}
end
section
variable {β : Type} {i : Nat} {env e : Sl} {R : Option β} {me : ME} {K : Res → Sl → Option β}
end
section
variable {α β γ δ ε ζ η θ ι : Type}
end
section
variable {K : PySem.W.Frag}
end
section
variable {K : PySem.W.Frag}
end
end Cm
namespace Cm
open PySem L2
def stoPut (env : Sl) (M : List MC) : Sl := env.set (env.length - 1) (.sto M)
section
variable {X : Cx} {K : PySem.W.Frag} {B : Fb} {env env' : Sl} {σ : L2.St} {Hk Hk' : Kn} {H H' : Hp} {M : List MC}
theorem HasSto.lt (h : HasSto env M) : env.length - 1 < env.length := (List.getElem?_eq_some_iff.mp h).1
theorem HasSto.put (h : HasSto env M) (M' : List MC) : HasSto (stoPut env M') M' := by
  unfold HasSto stoPut
  rw [List.length_set, List.getElem?_set_self h.lt]
theorem HasSto.sto (h : HasSto env M) : sto env = M := by
  unfold Cm.sto HasSto at *
  rw [h]
theorem hasSto_of {n : Nat} {c : MC} (h : (sto env)[n]? = some c) : HasSto env (sto env) := by
  unfold Cm.sto HasSto at *
  split at h
  · assumption
  · simp at h
theorem HasSto.uniq {M' : List MC} (h : HasSto env M) (g : HasSto env M') : M = M' := by
  unfold HasSto at *
  rw [h] at g
  exact Slot.sto.inj (Option.some.inj g)
theorem HasSto.set {i : Nat} {s : Slot} (h : HasSto env M) (hi : i ≠ env.length - 1) : HasSto (env.set i s) M := by
  unfold HasSto at *
  rw [List.length_set, List.getElem?_set_ne hi]
  exact h
theorem HasSto.ne {i : Nat} {s : Slot} (h : HasSto env M) (hs : env[i]? = some s) (hm : ∀ M, s ≠ .sto M) : i ≠ env.length - 1 := fun e => by
  unfold HasSto at h
  rw [e, h] at hs
  exact hm M (Option.some.inj hs).symm
theorem Rel.stoChange (R : Rel K B env σ Hk H) (hS : HasSto env M) {n : Nat} {c c' : MC} {a : Addr} {o' : HO} (hc : M[n]? = some c) (hl : c.live) (hl' : c'.live) (ha : Hk.P n = some a) (h3 : CellM K Hk (upd H a o') a c') :
    Rel K B (stoPut env (M.set n c')) σ Hk (upd H a o') := by
  have S := R.sok M hS
  obtain ⟨a', g1, g2, g3⟩ := S.cel n c hc
  rw [ha] at g1
  cases g1
  have hk := g3 hl
  obtain ⟨u, hu, hx⟩ := g2.there hl
  have h0 : B.H0 a = none ∨ B.io a := (R.pin n a ha).2 hk
  have R1 : Rel K B (env.set (env.length - 1) .no) σ Hk (upd H a o') := by
    have R0 : Rel K B (env.set (env.length - 1) .no) σ Hk H := R.less (fun z => z) (fun M z => by cases z) fun _ _ => trivial
    refine ⟨?_, R0.kn, R0.fr, ?_, ?_, R0.o0, R0.len, ?_, R0.sep, fun M1 h => ?_, fun m b h => ⟨?_, (R0.pin m b h).2⟩, R0.psep⟩
    · intro b x e
      have hb : b ≠ a := fun z => by rw [z, hk] at e; cases e
      rw [upd_ne hb]
      exact R.ex _ _ e
    · intro b x e hO
      have hb : b ≠ a := fun z => by
        subst z
        rcases h0 with z | z
        · rw [z] at e; cases e
        · exact hO z
      rw [upd_ne hb]
      exact R.kp b x e hO
    · intro b hb
      refine ⟨?_, (R.oin b hb).2⟩
      by_cases e : b = a
      · rw [e, upd_same]
        exact fun z => nomatch z
      · rw [upd_ne e]
        exact (R.oin b hb).1
    · intro j t hj
      obtain ⟨o, q1, q2⟩ := R0.slot j t hj
      refine ⟨o, q1, ?_⟩
      cases t with
      | own c =>
        obtain ⟨b, e1, z1, z2, z3⟩ := q2
        subst e1
        have ne : b ≠ a := fun e => R0.psep j _ b n hj trivial q1 (by rw [e]; exact ha)
        exact ⟨b, rfl, z1, z2, z3.mono (Same.refl _) fun o z => by rw [upd_ne ne]; exact z⟩
      | io k c =>
        obtain ⟨b, e1, z1, z2, z3⟩ := q2
        subst e1
        have ne : b ≠ a := fun e => R0.psep j _ b n hj trivial q1 (by rw [e]; exact ha)
        exact ⟨b, rfl, z1, z2, z3.mono (Same.refl _) fun o z => by rw [upd_ne ne]; exact z⟩
      | _ => exact q2
    · have := hasSto_set (M := M1) h fun M z => by cases z
      unfold HasSto at h
      rw [List.length_set, List.getElem?_set_self hS.lt] at h
      cases h
    · by_cases e : b = a
      · rw [e, upd_same]
        exact fun z => nomatch z
      · rw [upd_ne e]
        exact (R.pin m b h).1
  have hS1 : (env.set (env.length - 1) .no).length = env.length := List.length_set
  have R2 : Rel K B ((env.set (env.length - 1) .no).set (env.length - 1) (.sto (M.set n c'))) σ Hk (upd H a o') := by
    refine ⟨R1.ex, R1.kn, R1.fr, R1.kp, R1.oin, R1.o0, by rw [List.length_set]; exact R1.len, fun j t hj => ?_, fun j k s t b hj hk' ms mt q1 q2 => ?_, fun M1 h => ?_, R1.pin, fun j s b m hj ms q => ?_⟩
    · rcases set_get hj with ⟨rfl, rfl⟩ | ⟨hne, hj'⟩
      · obtain ⟨o, h1, _⟩ := R.slot _ _ hS
        exact ⟨o, h1, trivial⟩
      · exact R1.slot j t hj'
    · rcases set_get hj with ⟨rfl, rfl⟩ | ⟨_, hj⟩
      · cases ms
      · rcases set_get hk' with ⟨rfl, rfl⟩ | ⟨_, hk'⟩
        · cases mt
        · exact R1.sep j k s t b hj hk' ms mt q1 q2
    · have hM : M1 = M.set n c' := by
        unfold HasSto at h
        rw [List.length_set, hS1, List.getElem?_set_self (by rw [hS1]; exact hS.lt)] at h
        exact (Slot.sto.inj (Option.some.inj h)).symm
      subst hM
      refine ⟨fun m c1 h1 => ?_, S.inj, fun m h1 => S.top m (by rw [List.length_set] at h1; exact h1)⟩
      rcases set_get h1 with ⟨rfl, rfl⟩ | ⟨ne, h1⟩
      · exact ⟨a, ha, h3, fun _ => hk⟩
      · obtain ⟨b, w1, w2, w3⟩ := S.cel m c1 h1
        have nb : b ≠ a := fun e => ne (S.inj m n a (e ▸ w1) ha)
        refine ⟨b, w1, w2.mono (.refl _) (fun o z => by rw [upd_ne nb]; exact z) (fun dx z => ?_), w3⟩
        have nd : dx ≠ a := fun e => by
          rw [e, hu] at z
          exact hx b (Option.some.inj z)
        rw [upd_ne nd]
        exact z
    · rcases set_get hj with ⟨rfl, rfl⟩ | ⟨_, hj⟩
      · cases ms
      · exact R1.psep j s b m hj ms q
  rw [List.set_set] at R2
  exact R2
def Kn.pinned (Hk : Kn) (n : Nat) (a : Addr) : Kn := ⟨Hk.k, fun m => if m = n then some a else Hk.P m⟩
theorem Kn.pinned_same {n : Nat} {a : Addr} (h : Hk.P n = none) : KSame Hk (Hk.pinned n a) := ⟨Same.refl _, fun m x e => by
  show (if m = n then some a else Hk.P m) = some x
  by_cases z : m = n
  · rw [z, h] at e
    cases e
  · rw [if_neg z]
    exact e⟩
theorem Kn.pinned_at {n : Nat} {a : Addr} : (Hk.pinned n a).P n = some a := if_pos rfl
theorem Rel.stoTake (R : Rel K B env σ Hk H) (hS : HasSto env M) {a : Addr} {c : MC} (hk : Hk a = none) (h0 : B.H0 a = none) (hP : ∀ (n : Nat), Hk.P n ≠ some a) (hn : ∀ (j : Nat) s, env[j]? = some s → s.mut → σ[j]? ≠ some (some (V.ref a)))
    (hc : CellM K Hk H a c) (hl : c.live) : Rel K B (stoPut env (M ++ [c])) σ (Hk.pinned M.length a) H ∧ KSame Hk (Hk.pinned M.length a) ∧ PvOk K (Hk.pinned M.length a) (.ref a) (.ref M.length) := by
  have S := R.sok M hS
  have sm : KSame Hk (Hk.pinned M.length a) := Kn.pinned_same (S.top _ (Nat.le_refl _))
  have at_ : ∀ m b, (Hk.pinned M.length a).P m = some b → (m = M.length ∧ b = a) ∨ (m ≠ M.length ∧ Hk.P m = some b) := fun m b h => by
    have h : (if m = M.length then some a else Hk.P m) = some b := h
    by_cases z : m = M.length
    · rw [if_pos z] at h
      exact .inl ⟨z, (Option.some.inj h).symm⟩
    · rw [if_neg z] at h
      exact .inr ⟨z, h⟩
  obtain ⟨u, hu, _⟩ := hc.there hl
  refine ⟨⟨R.ex, R.kn.trans sm, R.fr, R.kp, R.oin, R.o0, ?_, fun j t hj => ?_, fun j k s t b hj hk' ms mt g1 g2 => ?_, fun M1 h => ?_, fun m b h => ?_, fun j s b m hj ms g e => ?_⟩, sm, .ref Kn.pinned_at⟩
  · unfold stoPut
    rw [List.length_set]
    exact R.len
  · rcases set_get hj with ⟨rfl, rfl⟩ | ⟨hne, hj'⟩
    · obtain ⟨o, h1, _⟩ := R.slot _ _ hS
      exact ⟨o, h1, trivial⟩
    · obtain ⟨o, q1, q2⟩ := R.slot j t hj'
      refine ⟨o, q1, ?_⟩
      cases t with
      | pv p =>
        obtain ⟨v, e1, q⟩ := q2
        exact ⟨v, e1, q.mono sm⟩
      | _ => exact q2
  · rcases set_get hj with ⟨rfl, rfl⟩ | ⟨_, hj⟩
    · cases ms
    · rcases set_get hk' with ⟨rfl, rfl⟩ | ⟨_, hk'⟩
      · cases mt
      · exact R.sep j k s t b hj hk' ms mt g1 g2
  · rw [h.uniq (hS.put _)]
    refine ⟨fun m c1 h1 => ?_, fun m k b w1 w2 => ?_, fun m h1 => ?_⟩
    · by_cases hm : m < M.length
      · rw [List.getElem?_append_left hm] at h1
        obtain ⟨b, w1, w2, w3⟩ := S.cel m c1 h1
        exact ⟨b, sm.p _ _ w1, w2.mono sm (fun o z => z) fun dx z => z, w3⟩
      · have hm2 : m = M.length := by
          have := (List.getElem?_eq_some_iff.mp h1).1
          rw [List.length_append, List.length_singleton] at this
          omega
        subst hm2
        rw [List.getElem?_append_right (Nat.le_refl _), Nat.sub_self] at h1
        cases h1
        exact ⟨a, Kn.pinned_at, hc.mono sm (fun o z => z) (fun dx z => z), fun _ => hk⟩
    · rcases at_ m b w1 with ⟨e1, e2⟩ | ⟨e1, e2⟩
      · rcases at_ k b w2 with ⟨e3, e4⟩ | ⟨e3, e4⟩
        · rw [e1, e3]
        · exact absurd (e2 ▸ e4) (hP k)
      · rcases at_ k b w2 with ⟨e3, e4⟩ | ⟨e3, e4⟩
        · exact absurd (e4 ▸ e2) (hP m)
        · exact S.inj m k b e2 e4
    · rw [List.length_append, List.length_singleton] at h1
      show (if m = M.length then some a else Hk.P m) = none
      rw [if_neg (by omega)]
      exact S.top m (by omega)
  · rcases at_ m b h with ⟨e1, e2⟩ | ⟨e1, e2⟩
    · subst e2
      exact ⟨ne_none hu, fun _ => .inl h0⟩
    · exact R.pin m b e2
  · rcases set_get hj with ⟨rfl, rfl⟩ | ⟨_, hj⟩
    · cases ms
    · rcases at_ m b e with ⟨e1, e2⟩ | ⟨e1, e2⟩
      · subst e2
        exact hn j s hj ms g
      · exact R.psep j s b m hj ms g e2
def Cell.mc : Cell → MC
  | .lst ds => .lst (ds.map .dat)
  | .dct es => .dct (es.map fun p => (p.1, .dat p.2))
theorem pvAll_dat : ∀ {vs : List V} {ds : List PyData}, DvAll K Hk vs ds → PvAll K Hk vs (ds.map .dat)
  | _, _, .nil => .nil
  | _, _, .cons h1 h2 => .cons (.dat h1) (pvAll_dat h2)
theorem pvKv_dat : ∀ {vs : List (Key × V)} {ds : List (PyData × PyData)}, DvKv K Hk vs ds → PvKv K Hk vs (ds.map fun p => (p.1, .dat p.2))
  | _, _, .nil => .nil
  | _, _, .cons h1 h2 => .cons (.dat h1) (pvKv_dat h2)
theorem CellAt.mc {a : Addr} {c : Cell} (h : CellAt K Hk H a c) : CellM K Hk H a c.mc ∧ c.mc.live := by
  cases c with
  | lst ds =>
    obtain ⟨vs, h1, h2⟩ := h
    exact ⟨⟨vs, h1, pvAll_dat h2⟩, trivial⟩
  | dct ds =>
    obtain ⟨vs, h1, h2⟩ := h
    exact ⟨⟨vs, h1, pvKv_dat h2⟩, trivial⟩
def into : Res × Sl → Option (PV × Sl)
  | (.dat d, e) => some (.dat d, e)
  | (.pv p, e) => some (p, e)
  | (.new c, e) => match e[e.length - 1]? with
    | some (.sto M) => some (.ref M.length, stoPut e (M ++ [c.mc]))
    | _ => none
  | (.slt i, e) => match e[i]?, e[e.length - 1]? with
    | some (.val d), _ => some (.dat d, e)
    | some (.own c), some (.sto M) => some (.ref M.length, (stoPut e (M ++ [c.mc])).set i (.pv (.ref M.length)))
    | _, _ => none
theorem Rel.into {r : Res} {v : V} {p : PV} (R : Rel K B env σ Hk H) (o : ResOk K B env σ Hk H r v) (h : Cm.into (r, env) = some (p, env')) : ∃ Hk' : Kn, Rel K B env' σ Hk' H ∧ KSame Hk Hk' ∧ PvOk K Hk' v p := by
  cases r with
  | dat d =>
    cases h
    exact ⟨Hk, R, .refl _, .dat o⟩
  | pv q =>
    cases h
    exact ⟨Hk, R, .refl _, o⟩
  | new c =>
    unfold Cm.into at h
    cases hS : env[env.length - 1]? with
    | none => simp only [hS] at h; cases h
    | some s =>
      cases s with
      | sto M =>
        simp only [hS] at h
        cases h
        obtain ⟨a, rfl, h1, h2, h3, h5, h4⟩ := o
        obtain ⟨R1, s1, q1⟩ := R.stoTake hS h1 h2 h5 h4 h3.mc.1 h3.mc.2
        exact ⟨_, R1, s1, q1⟩
      | _ => simp only [hS] at h; cases h
  | slt i =>
    unfold Cm.into at h
    have o : σ[i]? = some (some v) := o
    cases hi : env[i]? with
    | none => simp only [hi] at h; cases h
    | some s =>
      obtain ⟨u, g1, g2⟩ := R.slot i s hi
      rw [o] at g1
      cases g1
      cases s with
      | val d =>
        simp only [hi] at h
        cases h
        obtain ⟨v', e1, z⟩ := g2
        cases e1
        exact ⟨Hk, R, .refl _, .dat z⟩
      | own c =>
        cases hS : env[env.length - 1]? with
        | none => simp only [hi, hS] at h; cases h
        | some s =>
          cases s with
          | sto M =>
            simp only [hi, hS] at h
            cases h
            obtain ⟨a, e1, q1, q2, q3⟩ := g2
            cases e1
            have hS' : HasSto env M := hS
            have ni := hS'.ne hi fun M z => by cases z
            have R0 : Rel K B (env.set i .no) σ Hk H := R.less (fun z => z) (fun M z => by cases z) fun o _ => trivial
            have hS0 : HasSto (env.set i .no) M := hS'.set ni
            obtain ⟨R1, s1, p1⟩ := R0.stoTake hS0 q1 q2 (fun n => R.psep i _ a n hi trivial o) (fun j s hj hm e => by
              rcases set_get hj with ⟨rfl, rfl⟩ | ⟨ne, hj⟩
              · cases hm
              · exact ne (R.sep j i s _ a hj hi hm trivial e o)) q3.mc.1 q3.mc.2
            have R2 := R1.less (i := i) (s := .pv (.ref M.length)) (fun z => z) (fun M z => by cases z) fun u hu => by
              rw [o] at hu
              cases hu
              exact ⟨_, rfl, p1⟩
            have eq : (stoPut (env.set i .no) (M ++ [c.mc])).set i (.pv (.ref M.length)) = (stoPut env (M ++ [c.mc])).set i (.pv (.ref M.length)) := by
              unfold stoPut
              rw [List.length_set, List.set_comm _ _ (fun z => ni z), List.set_set]
            rw [eq] at R2
            exact ⟨_, R2, s1, p1⟩
          | _ => simp only [hi, hS] at h; cases h
      | _ => simp only [hi] at h; cases h
def mIn (m : ME) : ME := fun env => (m env).bind fun p => (into p).map fun q => (.pv q.1, q.2)
theorem in_run {m : ME} {Q : VK} (h : tE K (mIn m) σ H Q) : tE K m σ H Q := by
  obtain ⟨B, env, Hk, r, env', R, hm, k⟩ := h
  obtain ⟨⟨r1, e1⟩, h1, hm⟩ := Option.bind_eq_some_iff.mp hm
  obtain ⟨⟨p, e2⟩, h2, hm⟩ := Option.map_eq_some_iff.mp hm
  cases hm
  refine ⟨B, env, Hk, r1, e1, R, h1, fun v Hk1 H1 R1 s1 o1 => ?_⟩
  obtain ⟨Hk', R', s', z⟩ := R1.into o1 h2
  exact k v Hk' H1 R' (s1.trans s') z
theorem ve_in {e : Expr} {m : ME} (h : VE X e m) : VE X e (mIn m) := h.imp fun _ _ _ => in_run
end
end Cm
namespace Cm
open PySem L2
def pvGet (es : List (PyData × PV)) (k : Key) : Option PV := (es.find? fun p => decide (keyOf p.1 = some k)).map (·.2)
section
variable {X : Cx} {K : PySem.W.Frag} {B : Fb} {env env' : Sl} {σ : L2.St} {Hk Hk' : Kn} {H H' : Hp}
theorem PvAll.len : ∀ {vs : List V} {ps : List PV}, PvAll K Hk vs ps → vs.length = ps.length
  | _, _, .nil => rfl
  | _, _, .cons _ h => by
    have := PvAll.len h
    simp [this]
theorem PvAll.get : ∀ {vs : List V} {ps : List PV}, PvAll K Hk vs ps → ∀ (i : Nat) (p : PV), ps[i]? = some p → ∃ v, vs[i]? = some v ∧ PvOk K Hk v p
  | _, _, .nil, i, p, h => by simp at h
  | _, _, .cons h1 h2, 0, p, h => by
    simp at h
    subst h
    exact ⟨_, rfl, h1⟩
  | _, _, .cons h1 h2, i + 1, p, h => by
    obtain ⟨v, e, q⟩ := PvAll.get h2 i p (by simpa using h)
    exact ⟨v, by simpa using e, q⟩
theorem PvAll.append : ∀ {vs ws : List V} {ps qs : List PV}, PvAll K Hk vs ps → PvAll K Hk ws qs → PvAll K Hk (vs ++ ws) (ps ++ qs)
  | _, _, _, _, .nil, h => h
  | _, _, _, _, .cons h1 h2, h => .cons h1 (PvAll.append h2 h)
theorem PvAll.set {v : V} {p : PV} (q : PvOk K Hk v p) : ∀ {vs : List V} {ps : List PV} (i : Nat), PvAll K Hk vs ps → PvAll K Hk (vs.set i v) (ps.set i p)
  | _, _, _, .nil => .nil
  | _, _, 0, .cons _ h2 => .cons q h2
  | _, _, i + 1, .cons h1 h2 => .cons h1 (PvAll.set q i h2)
theorem PvAll.take : ∀ {vs : List V} {ps : List PV} (n : Nat), PvAll K Hk vs ps → PvAll K Hk (vs.take n) (ps.take n)
  | _, _, 0, _ => .nil
  | _, _, _ + 1, .nil => .nil
  | _, _, n + 1, .cons h1 h2 => .cons h1 (PvAll.take n h2)
theorem PvAll.drop : ∀ {vs : List V} {ps : List PV} (n : Nat), PvAll K Hk vs ps → PvAll K Hk (vs.drop n) (ps.drop n)
  | _, _, 0, h => h
  | _, _, _ + 1, .nil => .nil
  | _, _, n + 1, .cons h1 h2 => PvAll.drop n h2
def pvR : Res → Option PV
  | .dat d => some (.dat d)
  | .pv p => some p
  | _ => none
theorem RsOk.pvR {r : Res} {v : V} {p : PV} (h : RsOk K σ Hk r v) (e : Cm.pvR r = some p) : PvOk K Hk v p := by
  cases r with
  | dat d => cases e; exact .dat h
  | pv q => cases e; exact h
  | new c => cases e
  | slt i => cases e
theorem ResOk.pvR {r : Res} {v : V} {p : PV} (h : ResOk K B env σ Hk H r v) (e : Cm.pvR r = some p) : PvOk K Hk v p := by
  cases r with
  | dat d => cases e; exact .dat h
  | pv q => cases e; exact h
  | new c => cases e
  | slt i => cases e
def PV.ix (M : List MC) (x : PV) (i : Int) : Option PV := match x with
  | .tup ps => atI ps i
  | .dat (.list ds) => (atI ds i).map .dat
  | .dat (.tuple ds) => (atI ds i).map .dat
  | .dat _ => none
  | .ref n => match M[n]? with
    | some (.lst ps) => atI ps i
    | some (.kn (.lst ps)) => atI ps i
    | _ => none
def PV.dx (M : List MC) (x : PV) (k : Key) : Option (Option PV) := match x with
  | .dat (.dict es) => some ((dGet es k).map .dat)
  | .ref n => match M[n]? with
    | some (.dct es) => some (pvGet es k)
    | some (.kn (.dct es)) => some (pvGet es k)
    | some (.lk es) => some ((dGet es k).map .dat)
    | _ => none
  | _ => none
theorem atI_len {α β : Type} {xs : List α} {ys : List β} {i : Int} {y : β} (h : xs.length = ys.length) (e : atI ys i = some y) : ∃ j : Nat, ys[j]? = some y ∧ atI xs i = xs[j]? := by
  unfold atI at *
  obtain ⟨j, h1, h2⟩ := Option.bind_eq_some_iff.mp e
  refine ⟨j, h2, ?_⟩
  rw [h, h1]
  rfl
theorem ix_at (R : Rel K B env σ Hk H) {v : V} {x z : PV} {i : Int} {Q : VK} (hx : PvOk K Hk v x) (h : PV.ix (sto env) x i = some z) (q : ∀ u, PvOk K Hk u z → Q u H) : rIx K v (.int i) H Q := by
  have pst : ∀ (vs : List V) (ps : List PV), PvAll K Hk vs ps → atI ps i = some z → ∃ u, atI vs i = some u ∧ Q u H := fun vs ps g2 g3 => by
    obtain ⟨j, h1, h2⟩ := atI_len g2.len g3
    obtain ⟨u, h4, h5⟩ := g2.get j z h1
    exact ⟨u, by rw [h2]; exact h4, q u h5⟩
  have dst : ∀ (vs : List V) (ds : List PyData), DvAll K Hk vs ds → (atI ds i).map PV.dat = some z → ∃ u, atI vs i = some u ∧ Q u H := fun vs ds g2 g3 => by
    obtain ⟨d, g4, rfl⟩ := Option.map_eq_some_iff.mp g3
    obtain ⟨j, h1, h2⟩ := atI_len g2.len g4
    obtain ⟨u, h4, h5⟩ := g2.get j d h1
    exact ⟨u, by rw [h2]; exact h4, q u (.dat h5)⟩
  unfold PV.ix at h
  cases hx with
  | tup h1 h2 =>
    obtain ⟨u, g1, g2⟩ := pst _ _ h2 h
    exact .inr (.inl ⟨_, _, i, u, rfl, rfl, same_tup R.ex h1.sq, g1, g2⟩)
  | @dat v d hd =>
    cases d with
    | list ds =>
      cases hd with
      | lst h1 h2 =>
        obtain ⟨u, g1, g2⟩ := dst _ _ h2 h
        exact .inl ⟨_, _, i, u, rfl, rfl, SqL.of (R.ex _ _ h1), g1, g2⟩
    | tuple ds =>
      cases hd with
      | tup h1 h2 =>
        obtain ⟨u, g1, g2⟩ := dst _ _ h2 h
        exact .inr (.inl ⟨_, _, i, u, rfl, rfl, same_tup R.ex h1, g1, g2⟩)
    | _ => cases h
  | @ref a n hr =>
    cases hc : (sto env)[n]? with
    | none => simp only [hc] at h; cases h
    | some c =>
      obtain ⟨hS, b, g1, g2, g3⟩ := R.stoAt hc
      rw [hr] at g1
      cases g1
      simp only [hc] at h
      cases c with
      | lst ps =>
        obtain ⟨vs, h4, h5⟩ := g2
        obtain ⟨u, w1, w2⟩ := pst _ _ h5 h
        exact .inl ⟨_, _, i, u, rfl, rfl, SqL.of h4, w1, w2⟩
      | kn c' =>
        cases c' with
        | lst ps =>
          obtain ⟨vs, h4, h5⟩ := g2
          obtain ⟨u, w1, w2⟩ := pst _ _ h5 h
          exact .inl ⟨_, _, i, u, rfl, rfl, SqL.of (R.ex _ _ h4), w1, w2⟩
        | _ => cases h
      | _ => cases h
def mPix (ma mb : ME) : ME := fun env => (ma env).bind fun p => (mb p.2).bind fun q => (pvR p.1).bind fun x => match q.1 with
  | .dat (.int i) => (x.ix (sto q.2) i).map fun z => (.pv z, q.2)
  | _ => none
theorem pix_run {ma mb : ME} {Q : VK} (h : tE K (mPix ma mb) σ H Q) : tOp (rIx K) (tE K ma) (tE K mb) σ H Q := by
  obtain ⟨B, env, Hk, res, env', R, hm, k⟩ := h
  obtain ⟨⟨x, e1⟩, h1, hm⟩ := Option.bind_eq_some_iff.mp hm
  obtain ⟨⟨y, e2⟩, h2, hm⟩ := Option.bind_eq_some_iff.mp hm
  obtain ⟨px, h3, hm⟩ := Option.bind_eq_some_iff.mp hm
  cases y with
  | dat d =>
    cases d with
    | int i =>
      obtain ⟨pz, h5, hm⟩ := Option.map_eq_some_iff.mp hm
      cases hm
      refine ⟨B, env, Hk, x, e1, R, h1, fun v Hk1 H1 R1 s1 o1 => ?_⟩
      refine ⟨B, e1, Hk1, _, _, R1, h2, fun w Hk2 H2 R2 s2 o2 => ?_⟩
      cases o2
      exact ix_at R2 ((o1.pvR h3).mono s2) h5 fun u hu => k u Hk2 H2 R2 (s1.trans s2) hu
    | _ => cases hm
  | _ => cases hm
theorem ve_pix {a b : Expr} {ma mb : ME} {pos : Pos} (ha : VE X a ma) (hb : VE X b mb) (hs : PlainIx b) : VE X (.Subscript a b pos) (mPix ma mb) := (pe_ix ix_seq ha hb hs).imp fun _ _ _ => pix_run
end
end Cm
namespace Cm
open PySem L2
def resFlat : Res → Bool
  | .dat d => noL d
  | .new (.lst ds) => noLs ds
  | .new (.dct es) => noLs (es.map (·.2))
  | _ => false
section
variable {X : Cx} {K : PySem.W.Frag} {B : Fb} {env env' : Sl} {σ : L2.St} {Hk Hk' : Kn} {H H' : Hp}
open Classical in
noncomputable def tpK (Hk H H3 : Hp) : Hp := fun a => if Hk a ≠ none then Hk a else if H a = none then (match H3 a with
  | some (.tup xs) => some (.tup xs)
  | some (.frz u (.tup xs)) => some (.frz u (.tup xs))
  | _ => none) else none
mutual
theorem tpK_dv {Hk3 H3 : Hp} (e : Same Hk3 H3) (s : Same Hk Hk3) (hn : ∀ a, Hk3 a ≠ none → Hk a = none → H a = none ∨ ∃ o, H3 a = some o ∧ (∀ xs, o ≠ .tup xs) ∧ ∀ u xs, o ≠ .frz u (.tup xs)) : ∀ {v : V} {d : PyData}, Dv K Hk3 v d → noL d = true → Dv K (tpK Hk H H3) v d
  | _, _, .non, _ => .non
  | _, _, .bl b, _ => .bl b
  | _, _, .int i, _ => .int i
  | _, _, .str x, _ => .str x
  | _, _, .lst _ _, h => by simp [noL] at h
  | _, _, .dct _ _, h => by simp [noL] at h
  | _, _, .tup (a := a) h q, hl => by
    refine .tup ?_ (tpK_dvs e s hn q (by simpa [noL] using hl))
    rcases h with (h | ⟨u, h⟩) | h
    · refine .inl (.inl ?_)
      unfold tpK
      by_cases hk : Hk a = none
      · rcases hn _ (ne_none h) hk with z | ⟨o, z1, z2, _⟩
        · rw [if_neg (fun y => y hk), if_pos z, e _ _ h]
        · rw [e _ _ h] at z1
          exact absurd (Option.some.inj z1).symm (z2 _)
      · rw [if_pos hk]
        obtain ⟨o, ho⟩ := Option.ne_none_iff_exists'.mp hk
        rw [ho, ← s _ _ ho, h]
    · refine .inl (.inr ⟨u, ?_⟩)
      unfold tpK
      by_cases hk : Hk a = none
      · rcases hn _ (ne_none h) hk with z | ⟨o, z1, _, z2⟩
        · rw [if_neg (fun y => y hk), if_pos z, e _ _ h]
        · rw [e _ _ h] at z1
          exact absurd (Option.some.inj z1).symm (z2 _ _)
      · rw [if_pos hk]
        obtain ⟨o, ho⟩ := Option.ne_none_iff_exists'.mp hk
        rw [ho, ← s _ _ ho, h]
    · exact .inr h
theorem tpK_dvs {Hk3 H3 : Hp} (e : Same Hk3 H3) (s : Same Hk Hk3) (hn : ∀ a, Hk3 a ≠ none → Hk a = none → H a = none ∨ ∃ o, H3 a = some o ∧ (∀ xs, o ≠ .tup xs) ∧ ∀ u xs, o ≠ .frz u (.tup xs)) : ∀ {vs : List V} {ds : List PyData}, DvAll K Hk3 vs ds → noLs ds = true → DvAll K (tpK Hk H H3) vs ds
  | _, _, .nil, _ => .nil
  | _, _, .cons h1 h2, hl => by
    simp only [noLs, Bool.and_eq_true] at hl
    exact .cons (tpK_dv e s hn h1 hl.1) (tpK_dvs e s hn h2 hl.2)
end
theorem tpK_kvs {Hk3 H3 : Hp} (e : Same Hk3 H3) (s : Same Hk Hk3) (hn : ∀ a, Hk3 a ≠ none → Hk a = none → H a = none ∨ ∃ o, H3 a = some o ∧ (∀ xs, o ≠ .tup xs) ∧ ∀ u xs, o ≠ .frz u (.tup xs)) : ∀ {vs : List (Key × V)} {ds : List (PyData × PyData)}, DvKv K Hk3 vs ds → noLs (ds.map (·.2)) = true → DvKv K (tpK Hk H H3) vs ds
  | _, _, .nil, _ => .nil
  | _, _, .cons h1 h2, hl => by
    simp only [List.map_cons, noLs, Bool.and_eq_true] at hl
    exact .cons (tpK_dv e s hn h1 hl.1) (tpK_kvs e s hn h2 hl.2)
end
end Cm
namespace Cm
open PySem L2
section
variable {X : Cx} {K : PySem.W.Frag} {B : Fb} {env env' : Sl} {σ : L2.St} {Hk Hk' : Kn} {H H' : Hp}
theorem Rel.lstP (R : Rel K B env σ Hk H) {v : V} {n : Nat} {ps : List PV} (hv : PvOk K Hk v (.ref n)) (hc : (sto env)[n]? = some (.lst ps)) : ∃ a vs, v = .ref a ∧ Hk.P n = some a ∧ H a = some (.lst vs) ∧ PvAll K Hk vs ps := by
  obtain ⟨hS, a, g1, g2, g3⟩ := R.stoAt hc
  obtain ⟨vs, h1, h2⟩ := g2
  cases hv with
  | ref q =>
    rw [g1] at q
    cases q
    exact ⟨a, vs, rfl, g1, h1, h2⟩
theorem Rel.putL (R : Rel K B env σ Hk H) {n : Nat} {a : Addr} {ps ps' : List PV} {vs' : List V} (hc : (sto env)[n]? = some (.lst ps)) (hp : Hk.P n = some a) (h : PvAll K Hk vs' ps') : Rel K B (stoPut env ((sto env).set n (.lst ps'))) σ Hk (upd H a (.lst vs')) :=
  R.stoChange (hasSto_of hc) hc trivial trivial hp ⟨vs', upd_same, h⟩
def setLP (M : List MC) (p : PV) (i : Int) (x : PV) : Option (List MC) := match p with
  | .ref n => match M[n]? with
    | some (.lst ps) => (ixN ps.length i).map fun j => M.set n (.lst (ps.set j x))
    | _ => none
  | _ => none
def mPsetL (me mo mi : ME) : MS := fun env => (mIn me env).bind fun x => (mo x.2).bind fun o => (mi o.2).bind fun i => (pvR x.1).bind fun px => (pvR o.1).bind fun po => match i.1 with
  | .dat (.int k) => (setLP (sto i.2) po k px).map fun M => (.nx, stoPut i.2 M)
  | _ => none
theorem psetL_run {me mo mi : ME} {W : WX} {D : Ends} (h : tS K W (mPsetL me mo mi) D σ H) : tAsg (tE K (mIn me)) (gSub (tE K mo) (tE K mi) L2.rSetL) D σ H := by
  obtain ⟨B, env, Hk, f, env', R, hm, k⟩ := h
  obtain ⟨⟨x, e1⟩, h1, hm⟩ := Option.bind_eq_some_iff.mp hm
  obtain ⟨⟨o, e2⟩, h2, hm⟩ := Option.bind_eq_some_iff.mp hm
  obtain ⟨⟨i, e3⟩, h3, hm⟩ := Option.bind_eq_some_iff.mp hm
  obtain ⟨px, h4, hm⟩ := Option.bind_eq_some_iff.mp hm
  obtain ⟨po, h5, hm⟩ := Option.bind_eq_some_iff.mp hm
  cases i with
  | dat d =>
    cases d with
    | int ki =>
      obtain ⟨M, h6, hm⟩ := Option.map_eq_some_iff.mp hm
      cases hm
      refine ⟨B, env, Hk, x, e1, R, h1, fun v Hk1 H1 R1 s1 o1 => ?_⟩
      refine ⟨B, e1, Hk1, o, e2, R1, h2, fun w Hk2 H2 R2 s2 o2 => ?_⟩
      refine ⟨B, e2, Hk2, _, e3, R2, h3, fun u Hk3 H3 R3 s3 o3 => ?_⟩
      cases o3
      cases po with
      | ref n =>
        unfold setLP at h6
        cases hc : (sto e3)[n]? with
        | none => simp only [hc] at h6; cases h6
        | some c =>
          cases c with
          | lst ps =>
            simp only [hc] at h6
            obtain ⟨j, h7, rfl⟩ := Option.map_eq_some_iff.mp h6
            obtain ⟨a, vs, rfl, g1, g2, g3⟩ := R3.lstP ((o2.pvR h5).mono s3) hc
            refine ⟨a, vs, ki, j, rfl, rfl, g2, by rw [g3.len]; exact h7, ?_⟩
            exact k σ Hk3 _ (R3.putL hc g1 (g3.set (((o1.pvR h4).mono s2).mono s3) j)) ((s1.trans s2).trans s3)
          | _ => simp only [hc] at h6; cases h6
      | _ => cases h6
    | _ => cases hm
  | _ => cases hm
theorem vs_psetL {o ix e : Expr} {me mo mi : ME} {tpos pos : Pos} (he : VE X e me) (ho : VE X o mo) (hi : VE X ix mi)
    (ha : ∀ v, assign (.Subscript o ix tpos) X.env v = (do
      let ov ← holding [v] (eval o X.env)
      let iv ← holding [v, ov] (eval ix X.env)
      standAt tpos
      holding [v, ov, iv] (setItem ov iv v)
      release [v, ov, iv] []) := by intro _; rfl) (hs : swapsWithSole [.Subscript o ix tpos] e pos.line X.env = pure false := by rfl) (hw : swappedStores [.Subscript o ix tpos] e X.env = pure none := by rfl)
    (h1 : (assignEach [.Subscript o ix tpos] X.env).map (·.2) = [assign (.Subscript o ix tpos) X.env] := by rfl) : VS X (.Assign [.Subscript o ix tpos] e pos) (mPsetL me mo mi) :=
  fun W _ => (ps_asg (ve_in he) (pg_sub ho hi set_list ha) hs hw h1).imp fun _ _ _ => psetL_run
def pvRs : List Res → Option (List PV)
  | [] => some []
  | r :: rs => (pvR r).bind fun p => (pvRs rs).map (p :: ·)
theorem RsAll.pvs : ∀ {rs : List Res} {vs : List V} {ps : List PV}, RsAll K σ Hk rs vs → pvRs rs = some ps → PvAll K Hk vs ps
  | _, _, _, .nil, h => by
    cases h
    exact .nil
  | _, _, _, .cons h1 h2, h => by
    obtain ⟨p, g1, h⟩ := Option.bind_eq_some_iff.mp h
    obtain ⟨ps, g2, rfl⟩ := Option.map_eq_some_iff.mp h
    exact .cons (h1.pvR g1) (RsAll.pvs h2 g2)
def isLP (M : List MC) : PV → Bool
  | .ref n => match M[n]? with
    | some (.lst _) => true
    | _ => false
  | _ => false
abbrev GM := List MC → PV → List PV → Option (PV × List MC)
def mPM (g : GM) (mo : ME) (ms : MA) : ME := fun env => (mo env).bind fun o => (pvR o.1).bind fun x => if isLP (sto o.2) x = true then (ms o.2).bind fun p => (pvRs p.1).bind fun ps => (g (sto p.2) x ps).map fun z => (.pv z.1, stoPut p.2 z.2) else none
def PMt (K : PySem.W.Frag) (r : V → List V → Hp → VK → Prop) (g : GM) : Prop := ∀ {B : Fb} {env : Sl} {σ : L2.St} {Hk : Kn} {H : Hp} {x : V} {vs : List V} {p : PV} {ps : List PV} {z : PV × List MC} {Q : VK}, Rel K B env σ Hk H → PvOk K Hk x p → PvAll K Hk vs ps → g (sto env) p ps = some z →
  (∀ v H', Rel K B (stoPut env z.2) σ Hk H' → PvOk K Hk v z.1 → Q v H') → r x vs H Q
theorem pm_run {g : GM} {r : V → List V → Hp → VK → Prop} (hg : PMt K r g) {mo : ME} {ms : MA} {Q : VK} (h : tE K (mPM g mo ms) σ H Q) : tBM K "list" r (tE K mo) (tA K ms) σ H Q := by
  obtain ⟨B, env, Hk, res, env', R, hm, k⟩ := h
  obtain ⟨⟨o, e1⟩, h1, hm⟩ := Option.bind_eq_some_iff.mp hm
  obtain ⟨x, h2, hm⟩ := Option.bind_eq_some_iff.mp hm
  by_cases hT : isLP (sto e1) x = true
  · have hm : (if isLP (sto e1) x = true then _ else _) = some (res, env') := hm
    rw [if_pos hT] at hm
    obtain ⟨⟨rs, e2⟩, h3, hm⟩ := Option.bind_eq_some_iff.mp hm
    obtain ⟨ps, h4, hm⟩ := Option.bind_eq_some_iff.mp hm
    obtain ⟨z, h5, hm⟩ := Option.map_eq_some_iff.mp hm
    cases hm
    refine ⟨B, env, Hk, o, e1, R, h1, fun v Hk1 H1 R1 s1 o1 => ?_⟩
    have ox := o1.pvR h2
    refine ⟨?_, B, e1, Hk1, rs, e2, R1, h3, fun vs Hk2 H2 R2 s2 o2 => ?_⟩
    · cases x with
      | ref n =>
        unfold isLP at hT
        cases hc : (sto e1)[n]? with
        | none => simp only [hc] at hT; cases hT
        | some c =>
          cases c with
          | lst ps =>
            obtain ⟨a, vs, rfl, _, g2, _⟩ := R1.lstP ox hc
            exact .inl ⟨rfl, vs, SqL.of g2⟩
          | _ => simp only [hc] at hT; cases hT
      | _ => cases hT
    · exact hg R2 (ox.mono s2) (o2.pvs h4) h5 fun u H' R' q => k u Hk2 H' R' (s1.trans s2) q
  · have hm : (if isLP (sto e1) x = true then _ else _) = some (res, env') := hm
    rw [if_neg hT] at hm
    cases hm
theorem ve_pm {e o : Expr} {es : List Expr} {mo : ME} {ms : MA} {g : GM} {name : Str} {id : String} {r : V → List V → Hp → VK → Prop} {apos cpos : Pos} (slot : PySem.Slot "list" name id) (hty : typeOf (.builtin id) = pure (.type "method_descriptor")) (hm : MtR X id r) (hg : PMt X.K r g) (ho : VE X o mo) (ha : VA X (e :: es) ms)
    (hbase : attributeBase o name X.env (eval o X.env) = eval o X.env := by rfl)
    (hfew : ((backTo cpos (starEach (e :: es) X.env)).all (fun x => !x.1) && (backToKw cpos (keywordEach [] X.env)).all (fun x => x.1.isSome)
      && decide ((e :: es).length + ([] : List Keyword).length + (if ([] : List Keyword).isEmpty then 0 else 1) < 30)) = true := by rfl)
    (hline : (apos.endLine == cpos.line) = true := by rfl) (hs : starEach (e :: es) X.env = (false, eval e X.env) :: starEach es X.env := by rfl) (hplain : (backTo cpos (starEach es X.env)).any (·.1) = false := by rfl) :
    VE X (.Call (.Attribute o name apos) (e :: es) [] cpos) (mPM g mo ms) := (pe_bm PySem.F.plainAttrs_list slot hty hm ho ha hbase hfew hline hs hplain).imp fun _ _ _ => pm_run hg
def gAppP : GM := fun M p xs => match p, xs with
  | .ref n, [x] => match M[n]? with
    | some (.lst ps) => if ps.length < 100000 then some (.dat .none, M.set n (.lst (ps ++ [x]))) else none
    | _ => none
  | _, _ => none
theorem PvAll.dropLast : ∀ {vs : List V} {ps : List PV}, PvAll K Hk vs ps → PvAll K Hk vs.dropLast ps.dropLast := fun {vs ps} h => by
  rw [List.dropLast_eq_take, List.dropLast_eq_take, h.len]
  exact h.take _
theorem pm_app : PMt K rAppend gAppP := by
  intro B env σ Hk H x vs p ps z Q R hx hs h q
  unfold gAppP at h
  split at h
  · rename_i n y
    split at h
    · rename_i ps hc
      split at h
      · rename_i hl
        cases h
        obtain ⟨a, ws, rfl, g1, g2, g3⟩ := R.lstP hx hc
        cases hs with
        | cons h1 h2 =>
          cases h2
          exact ⟨a, ws, _, rfl, rfl, g2, by rw [g3.len]; exact Nat.lt_of_lt_of_le hl (by decide), q _ _ (R.putL hc g1 (g3.append (.cons h1 .nil))) (.dat .non)⟩
      · cases h
    · cases h
  · cases h
def mPtup (ms : MA) : ME := fun env => (ms env).bind fun p => (pvRs p.1).bind fun ps => if ps.length ≤ 100000 then some (.pv (.tup ps), p.2) else none
def mPlst (ms : MA) : ME := fun env => (ms env).bind fun p => (pvRs p.1).bind fun ps => match p.2[p.2.length - 1]? with
  | some (.sto M) => if ps.length ≤ 100000 then some (.pv (.ref M.length), stoPut p.2 (M ++ [.lst ps])) else none
  | _ => none
def tTupZ (t : TA) : TE := fun σ H Q => t σ H fun xs H1 => xs.length ≤ sizeLine ∧ ∀ (p : Addr) (o : Obj), H1 p = none → o.cls = .type "tuple" → o.dict = none → Q (.ref p) (upd H1 p (.frz o (.tup xs)))
theorem pe_tupZ {X : Cx} {es : List Expr} {t : TA} {pos : Pos} {x1} (h : PA X es t) : PE X (.Tuple es x1 pos) (tTupZ t) := by
  constructor
  intro pins s σ H Q I hq
  apply wpAny_Tuple_spliced
  refine thn (h.run pos pins s σ H _ I hq) ?_
  rintro us s1 ⟨xs, H1, I1, r, z, q⟩
  have free := I1.hok.fresh (Nat.le_refl s1.heap.objs.size)
  refine ⟨r.length ▸ z, .ref s1.heap.objs.size, upd H1 s1.heap.objs.size (.frz { cls := .type "tuple", data := .seq us.toArray 0 } (.tup xs)), I1.laid (t' := s1.toks) (fun _ _ e => Heap.get?_push_of_some _ e) (Nat.le_refl _) ?_, rfl, q _ _ free rfl rfl⟩
  exact ⟨Heap.get?_push_size _ rfl, z, us, r, _, Heap.get?_push_size _ rfl, rfl, _, rfl⟩
theorem ptup_run {ms : MA} {Q : VK} (h : tE K (mPtup ms) σ H Q) : tTupZ (tA K ms) σ H Q := by
  obtain ⟨B, env, Hk, res, env', R, hm, k⟩ := h
  obtain ⟨⟨rs, e1⟩, h1, hm⟩ := Option.bind_eq_some_iff.mp hm
  obtain ⟨ps, h2, hm⟩ := Option.bind_eq_some_iff.mp hm
  by_cases hl : ps.length ≤ 100000
  · have hm : (if ps.length ≤ 100000 then _ else _) = some (res, env') := hm
    rw [if_pos hl] at hm
    cases hm
    refine ⟨B, env, Hk, rs, e1, R, h1, fun vs Hk1 H1 R1 s1 o1 => ?_⟩
    have da := o1.pvs h2
    refine ⟨by rw [da.len]; exact sz_of hl, fun p o hp hc hd => ?_⟩
    have sm := ksame_upd (Hk := Hk1) (o := .frz o (.tup vs)) (R1.kfree hp)
    exact k _ (Hk1.upd p (.frz o (.tup vs))) _ (R1.laidK hp) (s1.trans sm) (.tup ⟨o, show upd Hk1.k p _ p = _ from upd_same, hc, hd⟩ (da.mono sm))
  · have hm : (if ps.length ≤ 100000 then _ else _) = some (res, env') := hm
    rw [if_neg hl] at hm
    cases hm
theorem plst_run {ms : MA} {Q : VK} (h : tE K (mPlst ms) σ H Q) : tLst (tA K ms) σ H Q := by
  obtain ⟨B, env, Hk, res, env', R, hm, k⟩ := h
  obtain ⟨⟨rs, e1⟩, h1, hm⟩ := Option.bind_eq_some_iff.mp hm
  obtain ⟨ps, h2, hm⟩ := Option.bind_eq_some_iff.mp hm
  dsimp only at hm
  split at hm
  · rename_i M hS
    by_cases hl : ps.length ≤ 100000
    · rw [if_pos hl] at hm
      cases hm
      refine ⟨B, env, Hk, rs, e1, R, h1, fun vs Hk1 H1 R1 s1 o1 => ?_⟩
      have da := o1.pvs h2
      refine ⟨by rw [da.len]; exact sz_of hl, fun p hp => ?_⟩
      have R2 : Rel K B e1 σ Hk1 (upd H1 p (.lst vs)) := R1.laid hp
      obtain ⟨R3, s3, q3⟩ := R2.stoTake (M := M) hS (R1.kfree hp) (R1.fresh0 hp) (R1.pfree hp) (fun j s hj hm => R1.mutNe hp hj hm) (c := .lst ps) ⟨vs, upd_same, da⟩ trivial
      exact k _ _ _ R3 (s1.trans s3) q3
    · rw [if_neg hl] at hm
      cases hm
  · cases hm
theorem ve_ptup {es : List Expr} {ms : MA} {x1} {pos : Pos} (h : VA X es ms) : VE X (.Tuple es x1 pos) (mPtup ms) := (pe_tupZ h).imp fun _ _ _ => ptup_run
theorem ve_plst {es : List Expr} {ms : MA} {pos : Pos} (h : VA X es ms) : VE X (.List es pos) (mPlst ms) := (pe_lst h).imp fun _ _ _ => plst_run
end
end Cm
namespace Cm
open PySem L2
abbrev MGP := PV → Sl → Option Sl
abbrev Gd := Sl → Prop
abbrev MIP := Sl → Option ((List PV × Gd) × Sl)
def tGP (K : PySem.W.Frag) (js : List Nat) (mg : MGP) : TG := fun v σ H Q => ∃ B env Hk p env', Rel K B env σ Hk H ∧ PvOk K Hk v p ∧ mg p env = some env' ∧
  ∀ σ' Hk' H', Rel K B env' σ' Hk' H' → KSame Hk Hk' → (∀ i, i ∉ js → σ'[i]? = σ[i]?) → σ'.length = σ.length → Q σ' H'
def IterOkP (K : PySem.W.Frag) (Hk0 : Kn) (G : Gd) (J : It) (ps : List PV) : Prop := ∀ {B : Fb} {env : Sl} {σ : L2.St} {Hk : Kn} {H : Hp}, Rel K B env σ Hk H → KSame Hk0 Hk → G env →
  ∀ i, (∀ p, ps[i]? = some p → J.go i H ∧ ∀ x H', J.yld i H x H' → ∃ Hk' : Kn, Rel K B env σ Hk' H' ∧ KSame Hk Hk' ∧ PvOk K Hk' x p) ∧ (ps.length ≤ i → J.stop i H)
def tIP (K : PySem.W.Frag) (m : MIP) : TI := fun σ H R => ∃ B env Hk q env', Rel K B env σ Hk H ∧ m env = some (q, env') ∧
  ∀ J Hk' H', Rel K B env' σ Hk' H' → KSame Hk Hk' → IterOkP K Hk' q.2 J q.1 → R J H'
open Classical in
noncomputable def forPL (G : Gd) (g : MGP) (b : MS) : List PV → Sl → Option (Fl × Sl)
  | [], e => if G e then some (.nx, e) else none
  | d :: ds, e => if G e then (g d e).bind fun e1 => (b e1).bind fun q => match q.1 with
    | .nx => forPL G g b ds q.2
    | .ct => forPL G g b ds q.2
    | .bk => some (.nx, q.2)
    | .rt r => some (.rt r, q.2)
    | .ex C fs => some (.ex C fs, q.2) else none
noncomputable def mForP (mi : MIP) (g : MGP) (b : MS) : MS := fun env => (mi env).bind fun p => forPL p.1.2 g b p.1.1 p.2
section
variable {X : Cx} {K : PySem.W.Frag} {B : Fb} {env env' : Sl} {σ : L2.St} {Hk Hk' : Kn} {H H' : Hp} {js : List Nat} {g : MGP} {b : MS} {mi : MIP} {t : MT} {me : ME} {pos : Pos}
theorem forP_run {W : WX} {D : Ends} (h : tS K W (mForP mi g b) D σ H) : tFor (tIP K mi) (tGP K js g) (tS K W b) D σ H := by
  obtain ⟨B, env, Hk, f, env', R, hm, k⟩ := h
  obtain ⟨⟨⟨ds, G⟩, e1⟩, h1, hm⟩ := Option.bind_eq_some_iff.mp hm
  refine ⟨B, env, Hk, (ds, G), e1, R, h1, fun J Hk1 H1 R1 s1 it => ?_⟩
  refine ⟨fun i m σ H => m = ds.length - i ∧ ∃ e, ∃ Hk2 : Kn, Rel K B e σ Hk2 H ∧ KSame Hk1 Hk2 ∧ forPL G g b (ds.drop i) e = some (f, env'), ⟨ds.length, by simp, e1, Hk1, R1, .refl _, hm⟩, ?_⟩
  rintro i m σ2 H2 ⟨rfl, e, Hk2, R2, s2, hf⟩
  cases hd : ds.drop i with
  | nil =>
    rw [hd] at hf
    unfold forPL at hf
    split at hf
    · rename_i hG
      cases hf
      exact .inl ⟨(it R2 s2 hG i).2 (List.drop_eq_nil_iff.mp hd), k σ2 Hk2 H2 R2 (s1.trans s2)⟩
    · cases hf
  | cons d r =>
    rw [hd] at hf
    unfold forPL at hf
    split at hf
    · rename_i hG
      obtain ⟨hi, hr, hlt⟩ := drop_cons hd
      obtain ⟨gi, yi⟩ := (it R2 s2 hG i).1 d hi
      obtain ⟨e2, g1, hf⟩ := Option.bind_eq_some_iff.mp hf
      obtain ⟨⟨f1, e3⟩, g2, hf⟩ := Option.bind_eq_some_iff.mp hf
      refine .inr ⟨gi, fun σ' H' => ∃ e, ∃ Hk2 : Kn, Rel K B e σ' Hk2 H' ∧ KSame Hk1 Hk2 ∧ forPL G g b (ds.drop (i + 1)) e = some (f, env'), fun σ' H' w => ⟨ds.length - (i + 1), by omega, rfl, w⟩, fun x H' y => ?_⟩
      obtain ⟨Hk3, R3, s3, o3⟩ := yi x H' y
      refine ⟨B, e, Hk3, d, e2, R3, o3, g1, fun σ3 Hk4 H4 R4 s4 _ _ => ?_⟩
      refine ⟨B, e2, Hk4, f1, e3, R4, g2, fun σ4 Hk5 H5 R5 s5 => ?_⟩
      have sm := ((s2.trans s3).trans s4).trans s5
      cases f1 with
      | nx =>
        refine ⟨e3, Hk5, R5, sm, ?_⟩
        rw [hr]
        exact hf
      | ct =>
        refine ⟨e3, Hk5, R5, sm, ?_⟩
        rw [hr]
        exact hf
      | bk =>
        cases hf
        exact k σ4 Hk5 H5 R5 (s1.trans sm)
      | rt r =>
        cases hf
        exact k σ4 Hk5 H5 R5 (s1.trans sm)
      | ex C fs =>
        cases hf
        exact k σ4 Hk5 H5 R5 (s1.trans sm)
    · cases hf
abbrev VIP (X : Cx) (tg e : Expr) (m : MIP) : Prop := PI X tg e (tIP X.K m)
abbrev VGP (X : Cx) (e : Expr) (js : List Nat) (mg : MGP) : Prop := PG X e (tGP X.K js mg)
theorem vs_forP {tg iter : Expr} {body : List Stmt} (hp : PassesOwn (model X.prog X.w) X.A X.env X.xe) (hi : VIP X tg iter mi) (hg : VGP X tg js g) (hb : VSs X body b) (hc : X.calm = true := by rfl)
    (hs : ∀ x, foldedSetIterable iter X.env x = pure x := by intro _; rfl) : VS X (.For tg iter body [] pos) (mForP mi g b) := fun W t => (ps_for hp hc hi hg (hb W t) hs).imp fun _ _ _ => forP_run
def mItP (m : ME) : MIP := fun env => (m env).bind fun p => match p.1 with
  | .pv (.ref n) => match (sto p.2)[n]? with
    | some (.lst ps) => some ((ps, fun e => (sto e)[n]? = some (.lst ps)), p.2)
    | _ => none
  | _ => none
theorem itP_run {m : ME} {R : It → Hp → Prop} (h : tIP K (mItP m) σ H R) : iList K (tE K m) σ H R := by
  obtain ⟨B, env, Hk, q, env', R0, hm, k⟩ := h
  obtain ⟨⟨r, e1⟩, h1, hm⟩ := Option.bind_eq_some_iff.mp hm
  refine ⟨B, env, Hk, r, e1, R0, h1, fun v Hk1 H1 R1 s1 o1 => ?_⟩
  cases r with
  | pv p =>
    cases p with
    | ref n =>
      cases hc : (sto e1)[n]? with
      | none => simp only [hc] at hm; cases hm
      | some c =>
        cases c with
        | lst ps =>
          simp only [hc] at hm
          cases hm
          obtain ⟨a, vs, rfl, g1, g2, g3⟩ := R1.lstP o1 hc
          refine ⟨a, rfl, ⟨vs, SqL.of g2⟩, k _ Hk1 H1 R1 s1 ?_⟩
          intro B2 env2 σ2 Hk2 H2 R2 s2 hG i
          obtain ⟨b, ws, e1, w1, w2, w3⟩ := R2.lstP (v := .ref a) (.ref (s2.p _ _ g1)) hG
          cases e1
          refine ⟨fun p hp => ?_, fun hl => ⟨ws, SqL.of w2, by rw [w3.len]; exact hl⟩⟩
          obtain ⟨u, z1, z2⟩ := w3.get i p hp
          refine ⟨⟨ws, u, SqL.of w2, z1⟩, fun x H' y => ?_⟩
          obtain ⟨rfl, y⟩ := y
          have := y ws (SqL.of w2)
          rw [z1] at this
          cases this
          exact ⟨Hk2, R2, .refl _, z2⟩
        | _ => simp only [hc] at hm; cases hm
    | _ => cases hm
  | _ => cases hm
theorem vi_P {tg e : Expr} {m : ME} (h : VE X e m) : VIP X tg e (mItP m) := (pi_list h).imp fun _ _ _ => itP_run
def mgOfD (g : MG) : MGP := fun p env => match p with
  | .dat d => g d env
  | _ => none
theorem gOfD_run {g : MG} {v : V} {Q : L2.St → Hp → Prop} (h : tGP K js (mgOfD g) v σ H Q) : tG K js g v σ H Q := by
  obtain ⟨B, env, Hk, p, env', R, hd, hm, k⟩ := h
  cases p with
  | dat d =>
    cases hd with
    | dat hd => exact ⟨B, env, Hk, d, env', R, hd, hm, k⟩
  | _ => cases hm
theorem vg_ofD {e : Expr} {g : MG} (h : VG X e js g) : VGP X e js (mgOfD g) := h.imp fun _ _ _ _ => gOfD_run
end
end Cm
namespace Cm
open PySem PySem.Spec PyProof.Rows L2
abbrev FMM := List MC → Sl → Option (Res × Sl × List MC)
structure StoIn (K : PySem.W.Frag) (Hk : Kn) (H : Hp) (M : List MC) : Prop where
  cel : ∀ (n : Nat) c, M[n]? = some c → ∃ a, Hk.P n = some a ∧ CellM K Hk H a c ∧ (c.live → Hk a = none)
  inj : ∀ (n m : Nat) a, Hk.P n = some a → Hk.P m = some a → n = m
  top : ∀ (n : Nat), M.length ≤ n → Hk.P n = none
  pin : ∀ (n : Nat) a, Hk.P n = some a → H a ≠ none
def ArgM (K : PySem.W.Frag) (Hk : Kn) (H : Hp) (s : Slot) (v : V) : Prop := match s with
  | .val d => Dv K Hk v d
  | .pv p => PvOk K Hk v p
  | .io _ c => ∃ a, v = .ref a ∧ Hk a = none ∧ CellAt K Hk H a c ∧ ∀ (n : Nat), Hk.P n ≠ some a
  | .scr ns => ∃ a, v = .ref a ∧ SqL K Hk a (ns.map V.int)
  | _ => False
structure ArgsM (K : PySem.W.Frag) (Hk : Kn) (H : Hp) (ins : Sl) (vs : List V) : Prop where
  len : ins.length = vs.length
  arg : ∀ (i : Nat) s v, ins[i]? = some s → vs[i]? = some v → ArgM K Hk H s v
  ix : ∀ (i k : Nat) c, ins[i]? = some (.io k c) → k = i
  sep : ∀ (i j k l : Nat) c c' a, ins[i]? = some (.io k c) → ins[j]? = some (.io l c') → vs[i]? = some (V.ref a) → vs[j]? = some (V.ref a) → i = j
def FResM (K : PySem.W.Frag) (H : Hp) (Hk' : Kn) (H' : Hp) (r : Res) (v : V) : Prop := match r with
  | .dat d => Dv K Hk' v d
  | .new c => ∃ a, v = .ref a ∧ Hk' a = none ∧ H a = none ∧ CellAt K Hk' H' a c ∧ ∀ (n : Nat), Hk'.P n ≠ some a
  | .pv p => PvOk K Hk' v p
  | .slt _ => False
structure PostM (K : PySem.W.Frag) (Hk : Kn) (H : Hp) (ins : Sl) (vs : List V) (outs : Sl) (M' : List MC) (Hk' : Kn) (H' : Hp) : Prop where
  kn : KSame Hk Hk'
  ex : Same Hk' H'
  fr : ∀ a, Hk' a ≠ none → Hk a = none → H a = none
  kp : ∀ a o, H a = some o → (∀ k, ioA ins vs k ≠ some a) → (∀ n, Hk.P n = some a → Hk a ≠ none) → H' a = some o
  io : ∀ k a, ioA ins vs k = some a → ∃ c', outs[k]? = some (.io k c') ∧ Hk' a = none ∧ CellAt K Hk' H' a c' ∧ ∀ (n : Nat), Hk'.P n ≠ some a
  sto : StoIn K Hk' H' M'
  new : ∀ n a, Hk'.P n = some a → Hk.P n = none → Hk' a = none → H a = none
  old : ∀ n a, Hk.P n = some a → Hk a = none → Hk' a = none
def spM (K : PySem.W.Frag) (fm : FMM) : Sp := fun vs H Q _ => ∃ (Hk : Kn) (ins : Sl) (M : List MC) (r : Res) (outs : Sl) (M' : List MC), Same Hk H ∧ StoIn K Hk H M ∧ ArgsM K Hk H ins vs ∧ fm M ins = some (r, outs, M') ∧
  ∀ v (Hk' : Kn) H', PostM K Hk H ins vs outs M' Hk' H' → FResM K H Hk' H' r v → Q v H'
def finM : Fl × Sl → Option Res
  | (.nx, _) => some (.dat .none)
  | (.rt (.dat d), _) => some (.dat d)
  | (.rt (.new c), _) => some (.new c)
  | (.rt (.pv p), _) => some (.pv p)
  | (.rt (.slt i), e) => match e[i]? with
    | some (.val d) => some (.dat d)
    | some (.own c) => some (.new c)
    | _ => none
  | _ => none
def fmM (np n : Nat) (mb : MS) : FMM := fun M ins => if ins.length = np then (mb ((ins ++ List.replicate (n - np) Slot.no).set (n - 1) (.sto M))).bind fun p => (finM p).bind fun r => if ioKept ins p.2 = true then (match p.2[p.2.length - 1]? with
    | some (.sto M') => some (r, p.2.take np, M')
    | _ => none) else none else none
section
variable {P : Program} {w : World} {K : PySem.W.Frag} {mg : Str → Option Value} {base : Heap}
theorem fmM_len {np n : Nat} {mb : MS} {M : List MC} {ins : Sl} {r : Res × Sl × List MC} (h : fmM np n mb M ins = some r) : ins.length = np := by
  unfold fmM at h
  by_cases hl : ins.length = np
  · exact hl
  · rw [if_neg hl] at h
    cases h
theorem spM_len {N ps : List Str} {mb : MS} (vs : List V) (H : Hp) (Q : VK) (E : XK) (h : spM K (fmM ps.length N.length mb) vs H Q E) : vs.length = ps.length := by
  obtain ⟨Hk, ins, M, r, outs, M', _, _, hA, hf, _⟩ := h
  rw [← hA.len, fmM_len hf]
theorem ArgsM.rel {Hk : Kn} {H : Hp} {ins : Sl} {vs : List V} {N : List Str} {M : List MC} (A : ArgsM K Hk H ins vs) (S : StoIn K Hk H M) (s : Same Hk H) (hl : vs.length < N.length) :
    Cm.Rel K ⟨Hk, H, ioA ins vs, fun _ => none, fun a => ∃ n, Hk.P n = some a ∧ Hk a = none⟩ ((ins ++ List.replicate (N.length - ins.length) Slot.no).set (N.length - 1) (.sto M)) (L2.start N vs) Hk H := by
  have hA : ∀ a, (∃ k, ioA ins vs k = some a) → H a ≠ none ∧ Hk a = none ∧ ∀ (n : Nat), Hk.P n ≠ some a := fun a h => by
    obtain ⟨k, h⟩ := h
    obtain ⟨l, c, e1, e2⟩ := ioA_of h
    obtain ⟨b, e3, q1, q2, q3⟩ := A.arg k _ _ e1 e2
    cases e3
    obtain ⟨o, ho⟩ := q2.there
    exact ⟨ne_none ho, q1, q3⟩
  have io : ∀ a, (⟨Hk, H, ioA ins vs, fun _ => none, fun a => ∃ n, Hk.P n = some a ∧ Hk a = none⟩ : Fb).io a → H a ≠ none ∧ Hk a = none := fun a h => by
    rcases h with h | ⟨n, h1, h2⟩
    · exact ⟨(hA a h).1, (hA a h).2.1⟩
    · exact ⟨S.pin n a h1, h2⟩
  have hlen : (ins ++ List.replicate (N.length - ins.length) Slot.no).length = N.length := by
    rw [List.length_append, List.length_replicate]
    have := A.len
    omega
  have cut : ∀ (i : Nat) s, ((ins ++ List.replicate (N.length - ins.length) Slot.no).set (N.length - 1) (.sto M))[i]? = some s → (ins[i]? = some s ∧ i < vs.length) ∨ s = .no ∨ (s = .sto M ∧ i = N.length - 1) := fun i s h => by
    rcases set_get h with ⟨h1, h2⟩ | ⟨_, h⟩
    · exact .inr (.inr ⟨h2, h1⟩)
    · by_cases hi : i < ins.length
      · rw [List.getElem?_append_left hi] at h
        exact .inl ⟨h, by rw [← A.len]; exact hi⟩
      · rw [List.getElem?_append_right (by omega), List.getElem?_replicate] at h
        split at h
        · cases h
          exact .inr (.inl rfl)
        · cases h
  have nsto : ∀ (i : Nat) M1, ins[i]? = some (.sto M1) → i < vs.length → False := fun i M1 h hi => by
    have := A.arg i _ _ h (List.getElem?_eq_getElem hi)
    exact this
  refine ⟨s, .refl _, fun a h1 h2 => absurd h2 h1, fun a o h _ => h, io, fun a h => (io a h).1, ?_, fun i s h => ?_, fun i j s t a h1 h2 m1 m2 e1 e2 => ?_, fun M1 h => ?_, fun n a h => ⟨S.pin n a h, fun z => .inr (.inr ⟨n, h, z⟩)⟩, fun i s a n hi ms e1 => ?_⟩
  · rw [List.length_set, hlen, start_len (by omega)]
  · have hlt : i < (L2.start N vs).length := by
      have := (List.getElem?_eq_some_iff.mp h).1
      rw [List.length_set, hlen] at this
      rw [start_len (by omega)]
      exact this
    rcases cut i s h with ⟨q, hi⟩ | rfl | ⟨rfl, _⟩
    · have hv : vs[i]? = some vs[i] := List.getElem?_eq_getElem hi
      refine ⟨some vs[i], start_get hv, ?_⟩
      have z := A.arg i s _ q hv
      cases s with
      | no => trivial
      | val d => exact ⟨_, rfl, z⟩
      | pv p => exact ⟨_, rfl, z⟩
      | own c => cases z
      | scr ns =>
        obtain ⟨a, e1, q1⟩ := z
        exact ⟨a, by rw [e1], q1⟩
      | pin a => cases z
      | sto M => cases z
      | io k c =>
        obtain ⟨a, e1, q1, q2, q3⟩ := z
        refine ⟨a, by rw [e1], q1, ?_, q2⟩
        have := A.ix i k c q
        subst this
        exact ioA_is q (by rw [hv, e1])
    · exact ⟨_, List.getElem?_eq_getElem hlt, trivial⟩
    · exact ⟨_, List.getElem?_eq_getElem hlt, trivial⟩
  · rcases cut i s h1 with ⟨q1, hi⟩ | rfl | ⟨rfl, _⟩
    · rcases cut j t h2 with ⟨q2, hj⟩ | rfl | ⟨rfl, _⟩
      · have v1 : vs[i]? = some vs[i] := List.getElem?_eq_getElem hi
        have v2 : vs[j]? = some vs[j] := List.getElem?_eq_getElem hj
        have g1 := start_get (N := N) v1
        have g2 := start_get (N := N) v2
        rw [e1] at g1
        rw [e2] at g2
        have w1 : vs[i]? = some (.ref a) := by rw [v1]; exact congrArg some (Option.some.inj (Option.some.inj g1)).symm
        have w2 : vs[j]? = some (.ref a) := by rw [v2]; exact congrArg some (Option.some.inj (Option.some.inj g2)).symm
        cases s with
        | own c => exact False.elim (A.arg i _ _ q1 w1)
        | io k c =>
          cases t with
          | own c => exact False.elim (A.arg j _ _ q2 w2)
          | io l c' => exact A.sep i j k l c c' a q1 q2 w1 w2
          | _ => cases m2
        | _ => cases m1
      · cases m2
      · cases m2
    · cases m1
    · cases m1
  · unfold HasSto at h
    rw [List.length_set, hlen, List.getElem?_set_self (by rw [hlen]; omega)] at h
    cases h
    exact ⟨S.cel, S.inj, S.top⟩
  · rcases cut i s hi with ⟨q1, hi⟩ | rfl | ⟨rfl, _⟩
    · have v1 : vs[i]? = some vs[i] := List.getElem?_eq_getElem hi
      have g1 := start_get (N := N) v1
      rw [e1] at g1
      have w1 : vs[i]? = some (.ref a) := by rw [v1]; exact congrArg some (Option.some.inj (Option.some.inj g1)).symm
      cases s with
      | own c => exact False.elim (A.arg i _ _ q1 w1)
      | io k c =>
        obtain ⟨b, e, _, _, q3⟩ := A.arg i _ _ q1 w1
        cases e
        exact q3 n
      | _ => cases ms
    · cases ms
    · cases ms
theorem fnM_body {qual : Str} {st : Stmt} {f : Addr} {N ps : List Str} {mb : MS} (S : FnScope N ps (defScope st)) (hN : ps.length < N.length) {cdv : Value} {A : Around} {outer : List Env} {s : Shared} {H : Hp} {E : XK} {vs : List V} {Q : VK}
    (hb : VSs ((cxOf CX0 P w K mg base N qual (defScope st) f cdv A outer s H E).nox) (defBody st) mb) (h : spM K (fmM ps.length N.length mb) vs H Q E) :
    ∃ t, PSs (cxOf CX0 P w K mg base N qual (defScope st) f cdv A outer s H E) (defBody st) t ∧ t { nx := fun _ H' => Q .non H', rt := Q } (L2.start N vs) H := by
  obtain ⟨Hk, ins, M, r, outs, M', sm, hS, hA, hf, q⟩ := h
  have hl := fmM_len hf
  unfold fmM at hf
  rw [if_pos hl] at hf
  obtain ⟨⟨fl, env'⟩, h1, hf⟩ := Option.bind_eq_some_iff.mp hf
  obtain ⟨r', h2, hf⟩ := Option.bind_eq_some_iff.mp hf
  by_cases hk : ioKept ins env' = true
  · have hf : (if ioKept ins env' = true then _ else _) = some (r, outs, M') := hf
    rw [if_pos hk] at hf
    dsimp only at hf
    split at hf
    · rename_i M2 hM
      cases hf
      refine ⟨tS K (fun _ _ _ _ => False) mb, PSs.nox (hb _ fun u s' h => by obtain ⟨_, _, _, _, _, _, _, _, _, _, _, _, _, _, _, _, w⟩ := h; exact w.elim), ?_⟩
      have R := hA.rel (N := N) hS sm (by rw [← hA.len, hl]; exact hN)
      rw [hl] at R
      refine ⟨_, _, _, fl, env', R, h1, fun σ' Hk' H' R' s' => ?_⟩
      have hsto : HasSto env' M' := hM
      have hio : ∀ (n : Nat) k a, Hk'.P n = some a → ioA ins vs k ≠ some a := fun n k a h1 h2 => by
        obtain ⟨l, c, e1, e2⟩ := ioA_of h2
        have := hA.ix k l c e1
        subst this
        obtain ⟨c', g1⟩ := ioKept_get hk e1
        obtain ⟨o, z0, b, rfl, _, z1, z2⟩ := R'.slot l _ g1
        have z1 : ioA ins vs l = some b := z1
        rw [h2] at z1
        cases z1
        exact R'.psep l _ a n g1 trivial z0 h1
      have post : PostM K Hk H ins vs (env'.take ps.length) M' Hk' H' := by
        have SO := R'.sok M' hsto
        refine ⟨s', R'.ex, R'.fr, fun a o h1 h2 h3 => R'.kp a o h1 (fun z => z.elim (fun ⟨k, z⟩ => h2 k z) fun ⟨n, z1, z2⟩ => h3 n z1 z2), fun k a h => ?_, ⟨SO.cel, SO.inj, SO.top, fun n a h => (R'.pin n a h).1⟩, fun n a h1 h2 h3 => ?_, fun n a h1 h2 => (R'.oin a (.inr ⟨n, h1, h2⟩)).2⟩
        · obtain ⟨l, c, e1, e2⟩ := ioA_of h
          have := hA.ix k l c e1
          subst this
          obtain ⟨c', g1⟩ := ioKept_get hk e1
          have hlt : l < ps.length := by rw [← hl]; exact (List.getElem?_eq_some_iff.mp e1).1
          refine ⟨c', by rw [List.getElem?_take_of_lt hlt]; exact g1, (R'.oin a (.inl ⟨l, h⟩)).2, ?_, fun n z => hio n l a z h⟩
          obtain ⟨o, _, b, _, _, z1, z2⟩ := R'.slot l _ g1
          have z1 : ioA ins vs l = some b := z1
          rw [h] at z1
          cases z1
          exact z2
        · rcases (R'.pin n a h1).2 h3 with z | z
          · exact z
          · rcases z with ⟨k, z⟩ | ⟨m, z1, z2⟩
            · exact absurd z (hio n k a h1)
            · have := SO.inj n m a h1 (s'.p _ _ z1)
              subst this
              rw [h2] at z1
              cases z1
      have fin : ∀ v, FResM K H Hk' H' r v → Q v H' := fun v hv => q v Hk' H' post hv
      cases fl with
      | nx =>
        cases h2
        exact fin .non .non
      | bk => cases h2
      | ct => cases h2
      | ex C fs => cases h2
      | rt r0 =>
        intro v hv
        cases r0 with
        | dat d =>
          cases h2
          exact fin v hv
        | pv p =>
          cases h2
          exact fin v hv
        | new c =>
          cases h2
          obtain ⟨a, rfl, q1, q2, q3, q5, _⟩ := hv
          exact fin _ ⟨a, rfl, q1, q2, q3, q5⟩
        | slt i =>
          have hv : σ'[i]? = some (some v) := hv
          cases e : env'[i]? with
          | none =>
            simp only [finM, e] at h2
            cases h2
          | some s =>
            obtain ⟨o, g1, g2⟩ := R'.slot i s e
            rw [hv] at g1
            cases g1
            simp only [finM, e] at h2
            cases s with
            | val d =>
              cases h2
              obtain ⟨v', e1, z⟩ := g2
              cases e1
              exact fin _ z
            | own c =>
              cases h2
              obtain ⟨a, e1, z1, z2, z3⟩ := g2
              cases e1
              exact fin _ ⟨a, rfl, z1, z2, z3, fun n => R'.psep i _ a n e trivial hv⟩
            | _ => cases h2
    · cases hf
  · have hf : (if ioKept ins env' = true then _ else _) = some (r, outs, M') := hf
    rw [if_neg hk] at hf
    cases hf
theorem fnM_ok {x qual : Str} {st : Stmt} {f : Addr} {fd : FuncData} {N ps : List Str} {k : Nat} {mb : MS} (F : FunD K x qual (defArgs st) (defBody st) (defScope st) [] [] f fd) (S : FnScope N ps (defScope st)) (hN : ps.length < N.length)
    (hb : ∀ (cdv : Value) (A : Around) (outer : List Env) (s : Shared) (H : Hp) (E : XK), Room k (A.deeper (envOfC qual (defScope st) s.heap.objs.size f cdv)) → VSs ((cxOf CX0 P w K mg base N qual (defScope st) f cdv A outer s H E).nox) (defBody st) mb) :
    FnOk P w K mg base CX0 (k + 1) f fd ps (spM K (fmM ps.length N.length mb)) :=
  F.ok (CX := CX0) S spM_len fun cdv A outer s H vs Q E hr h => fnM_body S hN (hb cdv A outer s H E hr) h
end
def argM (io : Option Nat) (env : Sl) (k : Nat) (r : Res) : Option Slot := if io = some k then (match r with
    | .slt i => match env[i]? with
      | some (.own c) => some (.io k c)
      | some (.io _ c) => some (.io k c)
      | _ => none
    | _ => none) else match r with
    | .dat d => some (.val d)
    | .pv p => some (.pv p)
    | .slt i => match env[i]? with
      | some (.val d) => some (.val d)
      | some (.scr ns) => some (.scr ns)
      | _ => none
    | _ => none
def argsM (io : Option Nat) (env : Sl) : Nat → List Res → Option Sl
  | _, [] => some []
  | k, r :: rs => (argM io env k r).bind fun s => (argsM io env (k + 1) rs).map (s :: ·)
def callM (fm : FMM) (io : Option Nat) (rs : List Res) (e : Sl) : Option (Res × Sl) := match e[e.length - 1]? with
  | some (.sto M) => (argsM io e 0 rs).bind fun ins => (fm M ins).bind fun q => (backV io e rs q.2.1).map fun e2 => (q.1, stoPut e2 q.2.2)
  | _ => none
section
variable {X : Cx} {K : PySem.W.Frag} {B : Fb} {env e2 : Sl} {σ : L2.St} {Hk : Kn} {H : Hp}
theorem argsM_get {io : Option Nat} : ∀ {rs : List Res} {k : Nat} {ins : Sl}, argsM io env k rs = some ins → ins.length = rs.length ∧ ∀ (i : Nat) r, rs[i]? = some r → ∃ s, ins[i]? = some s ∧ argM io env (k + i) r = some s
  | [], k, ins, h => by
    cases h
    exact ⟨rfl, fun i r e => by simp at e⟩
  | r :: rs, k, ins, h => by
    obtain ⟨s, h1, h⟩ := Option.bind_eq_some_iff.mp h
    obtain ⟨ss, h2, h3⟩ := Option.map_eq_some_iff.mp h
    subst h3
    obtain ⟨l, g⟩ := argsM_get h2
    refine ⟨by simp [l], fun i r' e => ?_⟩
    cases i with
    | zero =>
      simp at e
      subst e
      exact ⟨s, rfl, h1⟩
    | succ i =>
      obtain ⟨s', q1, q2⟩ := g i r' (by simpa using e)
      refine ⟨s', by simpa using q1, ?_⟩
      rw [show k + (i + 1) = k + 1 + i by omega]
      exact q2
theorem argM_io {io : Option Nat} {i : Nat} {r : Res} {s : Slot} (h : argM io env i r = some s) {k : Nat} {c : Cell} (e : s = .io k c) : k = i ∧ io = some i ∧ ∃ j t, r = .slt j ∧ env[j]? = some t ∧ t.mut ∧ (t = .own c ∨ ∃ l, t = .io l c) := by
  subst e
  unfold argM at h
  by_cases hio : io = some i
  · rw [if_pos hio] at h
    cases r with
    | slt j =>
      cases ej : env[j]? with
      | none => simp only [ej] at h; cases h
      | some t =>
        simp only [ej] at h
        cases t with
        | own c2 =>
          cases h
          exact ⟨rfl, hio, j, _, rfl, ej, trivial, .inl rfl⟩
        | io l c2 =>
          cases h
          exact ⟨rfl, hio, j, _, rfl, ej, trivial, .inr ⟨l, rfl⟩⟩
        | _ => cases h
    | _ => cases h
  · rw [if_neg hio] at h
    cases r with
    | slt j =>
      cases ej : env[j]? with
      | none => simp only [ej] at h; cases h
      | some t =>
        simp only [ej] at h
        cases t <;> cases h
    | dat d => cases h
    | pv p => cases h
    | new c => cases h
theorem callM_ok (R : Cm.Rel K B env σ Hk H) {fm : FMM} {io : Option Nat} {rs : List Res} {vs : List V} {r : Res} (h : callM fm io rs env = some (r, e2)) (hr : RsAll K σ Hk rs vs) {Q : VK}
    (k : ∀ v (Hk' : Kn) H', Cm.Rel K B e2 σ Hk' H' → KSame Hk Hk' → ResOk K B e2 σ Hk' H' r v → Q v H') : spM K fm vs H Q E0 := by
  unfold callM at h
  split at h
  · rename_i M hS
    obtain ⟨ins, h1, h⟩ := Option.bind_eq_some_iff.mp h
    obtain ⟨⟨r', outs, M'⟩, h2, h⟩ := Option.bind_eq_some_iff.mp h
    obtain ⟨e1, h3, h⟩ := Option.map_eq_some_iff.mp h
    cases h
    have hS : HasSto env M := hS
    have SO := R.sok M hS
    obtain ⟨la, ga⟩ := argsM_get h1
    have hl : ins.length = vs.length := by rw [la, hr.len]
    have at_ : ∀ (i : Nat) s, ins[i]? = some s → ∃ r, rs[i]? = some r ∧ argM io env i r = some s := fun i s hs => by
      have hi : i < rs.length := by rw [← la]; exact (List.getElem?_eq_some_iff.mp hs).1
      obtain ⟨s', q1, q2⟩ := ga i _ (List.getElem?_eq_getElem hi)
      rw [hs] at q1
      cases q1
      rw [Nat.zero_add] at q2
      exact ⟨_, List.getElem?_eq_getElem hi, q2⟩
    have A : ArgsM K Hk H ins vs := by
      refine ⟨hl, fun i s v e1 e2 => ?_, fun i k c e => ?_, fun i j k l c c' a e1 e2 _ _ => ?_⟩
      · obtain ⟨r, q1, q2⟩ := at_ i s e1
        obtain ⟨r2, q3, q4⟩ := hr.get i v e2
        rw [q1] at q3
        cases q3
        unfold argM at q2
        by_cases hio : io = some i
        · rw [if_pos hio] at q2
          cases r with
          | slt j =>
            have q4 : σ[j]? = some (some v) := q4
            cases ej : env[j]? with
            | none => simp only [ej] at q2; cases q2
            | some t =>
              simp only [ej] at q2
              obtain ⟨o, w1, w2⟩ := R.slot j _ ej
              rw [q4] at w1
              cases w1
              cases t with
              | own c =>
                cases q2
                obtain ⟨a, e, z1, z2, z3⟩ := w2
                cases e
                exact ⟨a, rfl, z1, z3, fun n => R.psep j _ a n ej trivial q4⟩
              | io l c =>
                cases q2
                obtain ⟨a, e, z1, z2, z3⟩ := w2
                cases e
                exact ⟨a, rfl, z1, z3, fun n => R.psep j _ a n ej trivial q4⟩
              | _ => cases q2
          | _ => cases q2
        · rw [if_neg hio] at q2
          cases r with
          | dat d => cases q2; exact q4
          | pv p => cases q2; exact q4
          | new c => cases q2
          | slt j =>
            have q4 : σ[j]? = some (some v) := q4
            cases ej : env[j]? with
            | none => simp only [ej] at q2; cases q2
            | some t =>
              simp only [ej] at q2
              obtain ⟨o, w1, w2⟩ := R.slot j _ ej
              rw [q4] at w1
              cases w1
              cases t with
              | val d =>
                cases q2
                obtain ⟨v', e, z⟩ := w2
                cases e
                exact z
              | scr ns =>
                cases q2
                obtain ⟨a, e, z⟩ := w2
                cases e
                exact ⟨a, rfl, z⟩
              | _ => cases q2
      · obtain ⟨r, q1, q2⟩ := at_ i _ e
        exact (argM_io q2 rfl).1
      · obtain ⟨r, q1, q2⟩ := at_ i _ e1
        obtain ⟨r2, q3, q4⟩ := at_ j _ e2
        have z1 := (argM_io q2 rfl).2.1
        have z2 := (argM_io q4 rfl).2.1
        rw [z1] at z2
        exact Option.some.inj z2
    -- the argument that is changed
    have ioAt : ∀ k a, ioA ins vs k = some a → io = some k ∧ ∃ j t, rs[k]? = some (.slt j) ∧ env[j]? = some t ∧ t.mut ∧ σ[j]? = some (some (V.ref a)) := fun k a e => by
      obtain ⟨l, c, e1, e2⟩ := ioA_of e
      obtain ⟨r, q1, q2⟩ := at_ k _ e1
      obtain ⟨rfl, z2, j, t, rfl, z4, z5, _⟩ := argM_io q2 rfl
      obtain ⟨r2, q3, q4⟩ := hr.get l _ e2
      rw [q1] at q3
      cases q3
      exact ⟨z2, j, t, q1, z4, z5, q4⟩
    refine ⟨Hk, ins, M, r', outs, M', R.ex, ⟨SO.cel, SO.inj, SO.top, fun n a h => (R.pin n a h).1⟩, A, h2, fun v Hk' H' p hres => ?_⟩
    have fresh : ∀ a, H a ≠ none → Hk a = none → Hk' a = none := fun a h1 h2 => by
      cases q : Hk' a with
      | none => rfl
      | some u => exact absurd (p.fr a (ne_none q) h2) h1
    have he1 : e1.length = env.length ∧ e1[env.length - 1]? = some (.sto M) ∧ ∀ (j : Nat) s, e1[j]? = some s → (env[j]? = some s ∧ ∀ k a, ioA ins vs k = some a → s.mut → σ[j]? ≠ some (some (V.ref a))) ∨ ∃ k a c t, ioA ins vs k = some a ∧ outs[k]? = some (.io k c) ∧ env[j]? = some t ∧ t.mut ∧ s = t.put c ∧ σ[j]? = some (some (V.ref a)) := by
      rcases back_is h3 with ⟨hio, rfl⟩ | ⟨q, i, k', c, s', hq, g1, g2, g3, rfl⟩
      · refine ⟨rfl, hS, fun j s hj => .inl ⟨hj, fun k a e => ?_⟩⟩
        rw [hio] at *
        cases (ioAt k a e).1
      · have hql : q < vs.length := by
          rw [← hr.len]
          exact (List.getElem?_eq_some_iff.mp g1).1
        obtain ⟨r2, z1, z2⟩ := hr.get q _ (List.getElem?_eq_getElem hql)
        rw [g1] at z1
        cases z1
        have z2 : σ[i]? = some (some vs[q]) := z2
        have hqi : q < ins.length := by rw [hl]; exact hql
        obtain ⟨r3, y1, y2⟩ := at_ q _ (List.getElem?_eq_getElem hqi)
        rw [g1] at y1
        cases y1
        have hm : s'.mut ∧ ∃ c0, ins[q] = .io q c0 := by
          unfold argM at y2
          rw [if_pos hq] at y2
          simp only [g3] at y2
          cases s' with
          | own c0 => exact ⟨trivial, c0, (Option.some.inj y2).symm⟩
          | io l c0 => exact ⟨trivial, c0, (Option.some.inj y2).symm⟩
          | _ => cases y2
        obtain ⟨hm, c0, hc0⟩ := hm
        obtain ⟨a, w1, w2, w3, _⟩ := R.mutAt g3 hm
        have hv : vs[q]? = some (.ref a) := by
          rw [List.getElem?_eq_getElem hql]
          rw [w1] at z2
          exact congrArg some (Option.some.inj (Option.some.inj z2)).symm
        have hA : ioA ins vs q = some a := ioA_is (by rw [List.getElem?_eq_getElem hqi, hc0]) hv
        have hkq : k' = q := by
          obtain ⟨c', y3, _⟩ := p.io q a hA
          rw [g2] at y3
          cases y3
          rfl
        subst hkq
        have ni : i ≠ env.length - 1 := hS.ne g3 fun M z => by cases s' with
          | own c => cases z
          | io k c => cases z
          | _ => cases hm
        refine ⟨List.length_set, by rw [List.getElem?_set_ne ni]; exact hS, fun j s hj => ?_⟩
        rcases set_get hj with ⟨rfl, rfl⟩ | ⟨hne, hj⟩
        · exact .inr ⟨k', a, c, s', hA, g2, g3, hm, rfl, w1⟩
        · refine .inl ⟨hj, fun k b e ms e2 => ?_⟩
          obtain ⟨x1, j2, t2, x2, x3, x4, x5⟩ := ioAt k b e
          rw [hq] at x1
          cases x1
          rw [hA] at e
          cases e
          exact hne (R.sep j i s s' a hj g3 ms hm e2 w1)
    obtain ⟨L1, L2, L3⟩ := he1
    have R2 : Cm.Rel K B (stoPut e1 M') σ Hk' H' := by
      have back : ∀ (j : Nat) s, (stoPut e1 M')[j]? = some s → (s = .sto M' ∧ j = env.length - 1) ∨ e1[j]? = some s := fun j s hj => by
        rcases set_get hj with ⟨z1, z2⟩ | ⟨_, hj⟩
        · exact .inl ⟨z2, by rw [z1, L1]⟩
        · exact .inr hj
      refine ⟨p.ex, R.kn.trans p.kn, fun a g1 g2 => ?_, fun a o g1 g2 => ?_, fun a g => ?_, R.o0, ?_, fun j s hj => ?_, fun i j s t a hi hj ms mt g1 g2 => ?_, fun M1 hM1 => ?_, fun n a g => ?_, fun j s a n hj ms g e => ?_⟩
      · by_cases z : Hk a = none
        · exact R.fresh0 (p.fr a g1 z)
        · exact R.fr a z g2
      · refine p.kp a o (R.kp a o g1 g2) (fun k e => ?_) fun n z hk => ?_
        · obtain ⟨_, j, t, _, x3, x4, x5⟩ := ioAt k a e
          obtain ⟨b, w1, _, _, w4⟩ := R.mutAt x3 x4
          rw [x5] at w1
          cases w1
          rcases w4 with w | w
          · rw [g1] at w; cases w
          · exact g2 w
        · rcases (R.pin n a z).2 hk with w | w
          · rw [g1] at w; cases w
          · exact g2 w
      · obtain ⟨w1, w2⟩ := R.oin a g
        refine ⟨?_, fresh a w1 w2⟩
        by_cases hk : ∃ k, ioA ins vs k = some a
        · obtain ⟨k, hk⟩ := hk
          obtain ⟨c', _, _, x, _⟩ := p.io k a hk
          obtain ⟨o, ho⟩ := x.there
          exact ne_none ho
        · by_cases hn : ∃ n, Hk.P n = some a
          · obtain ⟨n, hn⟩ := hn
            exact p.sto.pin n a (p.kn.p _ _ hn)
          · obtain ⟨o, ho⟩ := Option.ne_none_iff_exists'.mp w1
            exact ne_none (p.kp a o ho (fun k e => hk ⟨k, e⟩) fun n z => absurd ⟨n, z⟩ hn)
      · unfold stoPut
        rw [List.length_set, L1]
        exact R.len
      · rcases back j s hj with ⟨rfl, rfl⟩ | hj
        · obtain ⟨o, h1, _⟩ := R.slot _ _ hS
          exact ⟨o, h1, trivial⟩
        · rcases L3 j s hj with ⟨hj, hne⟩ | ⟨k, a, c, t, x1, x2, x3, x4, rfl, x6⟩
          · obtain ⟨o, w1, w2⟩ := R.slot j s hj
            refine ⟨o, w1, ?_⟩
            have cell : ∀ b c, o = some (.ref b) → s.mut → Hk b = none → CellAt K Hk H b c → Hk' b = none ∧ CellAt K Hk' H' b c := fun b c eo ms hk hc => by
              subst eo
              obtain ⟨u, hu⟩ := hc.there
              refine ⟨fresh b (ne_none hu) hk, hc.mono p.kn.s fun o z => p.kp b o z (fun k e => hne k b e ms w1) fun n z => absurd z (R.psep j s b n hj ms w1)⟩
            cases s with
            | no => trivial
            | sto M => trivial
            | pin k => exact w2
            | val d =>
              obtain ⟨v, e, q⟩ := w2
              exact ⟨v, e, dv_mono p.kn.s _ _ q⟩
            | pv x =>
              obtain ⟨v, e, q⟩ := w2
              exact ⟨v, e, q.mono p.kn⟩
            | scr ns =>
              obtain ⟨a, e, q⟩ := w2
              exact ⟨a, e, p.kn.s.seq q⟩
            | own c =>
              obtain ⟨b, e, q1, q2, q3⟩ := w2
              obtain ⟨z1, z2⟩ := cell b c e trivial q1 q3
              exact ⟨b, e, z1, q2, z2⟩
            | io l c =>
              obtain ⟨b, e, q1, q2, q3⟩ := w2
              obtain ⟨z1, z2⟩ := cell b c e trivial q1 q3
              exact ⟨b, e, z1, q2, z2⟩
          · obtain ⟨o, w1, w2⟩ := R.slot j t x3
            rw [x6] at w1
            cases w1
            refine ⟨_, x6, ?_⟩
            obtain ⟨c', y1, y2, y3, _⟩ := p.io k a x1
            rw [x2] at y1
            cases y1
            cases t with
            | own c0 =>
              obtain ⟨b, e, q1, q2, q3⟩ := w2
              cases e
              exact ⟨a, rfl, y2, q2, y3⟩
            | io l c0 =>
              obtain ⟨b, e, q1, q2, q3⟩ := w2
              cases e
              exact ⟨a, rfl, y2, q2, y3⟩
            | _ => cases x4
      · have orig : ∀ (j : Nat) s, (stoPut e1 M')[j]? = some s → s.mut → ∃ t, env[j]? = some t ∧ t.mut := fun j s hj ms => by
          rcases back j s hj with ⟨rfl, _⟩ | hj
          · cases ms
          · rcases L3 j s hj with ⟨hj, _⟩ | ⟨k, a, c, t, x1, x2, x3, x4, rfl, x6⟩
            · exact ⟨s, hj, ms⟩
            · exact ⟨t, x3, x4⟩
        obtain ⟨s2, y1, y2⟩ := orig i s hi ms
        obtain ⟨t2, y3, y4⟩ := orig j t hj mt
        exact R.sep i j s2 t2 a y1 y3 y2 y4 g1 g2
      · have : HasSto (stoPut e1 M') M' := HasSto.put (show HasSto e1 M by unfold HasSto; rw [L1]; exact L2) M'
        rw [hM1.uniq this]
        exact ⟨p.sto.cel, p.sto.inj, p.sto.top⟩
      · refine ⟨p.sto.pin n a g, fun z => ?_⟩
        cases hn : Hk.P n with
        | some b =>
          have := p.kn.p _ _ hn
          rw [g] at this
          cases this
          exact (R.pin n a hn).2 (p.kn.s.free z)
        | none => exact .inl (R.fresh0 (p.new n a g hn z))
      · have orig : ∃ t, env[j]? = some t ∧ t.mut := by
          rcases back j s hj with ⟨rfl, _⟩ | hj
          · cases ms
          · rcases L3 j s hj with ⟨hj, _⟩ | ⟨k, a, c, t, x1, x2, x3, x4, rfl, x6⟩
            · exact ⟨s, hj, ms⟩
            · exact ⟨t, x3, x4⟩
        obtain ⟨t, x1, x2⟩ := orig
        obtain ⟨b, w1, w2, ⟨o, ho⟩, _⟩ := R.mutAt x1 x2
        rw [g] at w1
        cases w1
        cases hn : Hk.P n with
        | some b =>
          have := p.kn.p _ _ hn
          rw [e] at this
          cases this
          exact R.psep j t a n x1 x2 g hn
        | none =>
          have := p.new n a e hn (fresh a (ne_none ho) w2)
          rw [ho] at this
          cases this
    refine k v Hk' H' R2 p.kn ?_
    cases r' with
    | dat d => exact hres
    | pv q => exact hres
    | slt i => cases hres
    | new c =>
      obtain ⟨a, rfl, q1, q2, q3, q4⟩ := hres
      refine ⟨a, rfl, q1, R.fresh0 q2, q3, q4, fun j s hj ms e => ?_⟩
      have := R2.mutAt hj ms
      obtain ⟨b, w1, w2, w3, w4⟩ := this
      rw [e] at w1
      cases w1
      have orig : ∃ t, env[j]? = some t ∧ t.mut := by
        rcases set_get hj with ⟨_, rfl⟩ | ⟨_, hj⟩
        · cases ms
        · rcases L3 j s hj with ⟨hj, _⟩ | ⟨k, a, c, t, x1, x2, x3, x4, rfl, x6⟩
          · exact ⟨s, hj, ms⟩
          · exact ⟨t, x3, x4⟩
      obtain ⟨t, x1, x2⟩ := orig
      exact R.mutNe q2 x1 x2 e
  · cases h
def mCallM (fm : FMM) (io : Option Nat) (ms : MA) : ME := fun env => (ms env).bind fun p => callM fm io p.1 p.2
theorem callM_run {fm : FMM} {io : Option Nat} {ms : MA} {Q : VK} (h : tE K (mCallM fm io ms) σ H Q) : tCall (spM K fm) [] E0 (tA K ms) σ H Q := by
  obtain ⟨B, env, Hk, res, env', R, hm, k⟩ := h
  obtain ⟨⟨rs, e1⟩, h1, hm⟩ := Option.bind_eq_some_iff.mp hm
  refine ⟨B, env, Hk, rs, e1, R, h1, fun vs Hk1 H1 R1 s1 o1 => ?_⟩
  show spM K fm (vs ++ []) H1 Q E0
  rw [List.append_nil]
  exact callM_ok R1 hm o1 fun v Hk' H' R' s' q => k v Hk' H' R' (s1.trans s') q
theorem ve_callM {k : Nat} {f : Addr} {fd : FuncData} {ps : List Str} {fm : FMM} {x : Str} {p pos : Pos} {e : Expr} {es : List Expr} {ms : MA} (io : Option Nat) (F : FnOk X.prog X.w X.K X.mg X.base CX0 k f fd ps (spM X.K fm)) (hr : Room k X.A) (hm : X.mg x = some (.ref f)) (hk : PySem.W.keepIn X.K (.ref f) = true) (hb : Binds X.K fd ps [])
    (ha : VA X (e :: es) ms) (hg : Gl X x := by rfl) (hdb : (x == ("__debug__" : Str)) = false := by decide) (he : starEach (e :: es) X.env = (false, eval e X.env) :: starEach es X.env := by rfl) (hpl : (backTo pos (starEach es X.env)).any (·.1) = false := by rfl) :
    VE X (.Call (.Name x p) (e :: es) [] pos) (mCallM fm io ms) := (pe_call F hr hg hm hk hb .nil pass0 ha hdb he hpl).imp fun _ _ _ => callM_run
end
end Cm
namespace Cm
open PySem PySem.Spec PyProof.Rows L2
section
variable {X : Cx} {K : PySem.W.Frag}
end
section
variable {β γ : Type} {env e : Sl} {R : Option β} {m : ME} {K : Res → Sl → Option β}
end
def ItES (x : Str) : It :=
  ⟨fun i H => i < x.cps.size, fun i H v H' => ∃ T c, v = .ref T ∧ H T = none ∧ H' = upd H T (.tup [.int (i : Nat), .str ⟨#[c]⟩]) ∧ x.cps[i]? = some c, fun i H => x.cps.size ≤ i⟩
theorem turn_enumS {P : Program} {w : World} {K : PySem.W.Frag} {elts : List Expr} {kk : Nat} {tpos : Pos} (x : Str) (t : Tok) (N : Nat) :
    Turn P w K (.Tuple elts kk tpos) (ItES x) [N + 1, N] (N + 1) (fun i h => i ≤ x.cps.size ∧ (∃ old, IsEnum h (N + 1) N (0 + (i : Int)) old) ∧ h.IsStrIter N (strIterType x) x t i) where
  mem := by simp
  obj := fun i h st b hb => by
    obtain ⟨_, ⟨old, he⟩, ⟨o, ho, hc, hd⟩⟩ := st
    have e' : b = N + 1 ∨ b = N := by simpa using hb
    rcases e' with z | z
    · rw [z]; exact ⟨_, he, fun v q => nomatch q⟩
    · rw [z]; exact ⟨o, ho, fun v q => by rw [hd] at q; cases q⟩
  keep := fun i h h' st k => by
    obtain ⟨hn, ⟨old, he⟩, ⟨o, ho, q⟩⟩ := st
    exact ⟨hn, ⟨old, k _ (by simp) _ he⟩, ⟨o, k _ (by simp) _ ho, q⟩⟩
  item := by
    intro X hP hw hK hc i pins s σ H E I hf st hg
    subst hP hw hK
    obtain ⟨hn, he, hit⟩ := st
    have hlt : N + 1 < s.heap.objs.size := by obtain ⟨_, he⟩ := he; exact Heap.lt_size he
    have h1 : X.A.in1.handled = none := I.ok.hd hc
    have W := GoesN.enumFrom (A := X.A) (elts := elts) (x1 := kk) (pos := tpos) 0 (Draws.text (prog := X.prog) (w := X.w) h1 N x t) (N + 1) (Nat.succ_ne_self _) (by simp) (by simp)
    refine W.goes i s _ E hg ⟨he, hit⟩ fun v h' tk hY st' hk _ => ?_
    obtain ⟨T, u, y, rfl, hT, hp, tup⟩ := hY
    obtain ⟨c, u', hc', rfl⟩ := hp
    have new : ObjOk X.prog X.w (upd H T (.tup [.int (i : Nat), .str ⟨#[c]⟩])) h' T (.tup [.int (i : Nat), .str ⟨#[c]⟩]) :=
      ⟨by show 2 ≤ sizeLine; decide, [.int (0 + (i : Int)) u, .str ⟨#[c]⟩ u'], .cons ⟨u, by rw [Int.zero_add]⟩ (.cons ⟨u', rfl⟩ .nil), tup⟩
    have I1 : Inv X pins σ (upd H T (.tup [.int (i : Nat), .str ⟨#[c]⟩])) { s with heap := h', toks := tk } :=
      I.turnedNew (t' := tk) (ch := [N + 1, N]) (fun b o hb q => hk b o (fun z => hb (by simp only [List.mem_cons, List.mem_nil_iff, or_false] at z ⊢; rcases z with z | z <;> simp [z])) q) hf hT new
    refine ⟨.ref T, _, I1, rfl, ⟨T, c, rfl, I.hok.fresh hT, rfl, hc'⟩, ⟨hg, st'.1, st'.2⟩, fun b hb => ?_⟩
    have hbT : b ≠ T := by
      have : b < T := by
        have e' : b = N + 1 ∨ b = N := by simpa using hb
        rcases e' with z | z <;> rw [z]
        · exact Nat.lt_of_lt_of_le hlt hT
        · exact Nat.lt_of_lt_of_le (by omega) hT
      exact Nat.ne_of_lt this
    rw [upd_ne hbT]
    exact (hf b hb).1
  done := by
    intro X hP hw hK hc i pins s σ H E I hf st hg
    subst hP hw hK
    obtain ⟨hn, he, hit⟩ := st
    have hg : x.cps.size ≤ i := hg
    have hin : i = x.cps.size := Nat.le_antisymm hn hg
    subst hin
    have h1 : X.A.in1.handled = none := I.ok.hd hc
    have W := GoesN.enumFrom (A := X.A) (elts := elts) (x1 := kk) (pos := tpos) 0 (Draws.text (prog := X.prog) (w := X.w) h1 N x t) (N + 1) (Nat.succ_ne_self _) (by simp) (by simp)
    refine W.stops s _ E ⟨he, hit⟩ fun h' tk hk _ => ?_
    exact I.turnedL (t' := tk) (ch := [N + 1, N]) (fun b o hb q => hk b o (fun z => hb (by simp only [List.mem_cons, List.mem_nil_iff, or_false] at z ⊢; rcases z with z | z <;> simp [z])) q) hf
  self := fun A i s Q E st h => let ⟨_, ⟨_, he⟩, _⟩ := st; wpAny_pyIter_enum he h
section
variable {X : Cx} {K : PySem.W.Frag}
def iEnumS (ta : TA) : TI := fun σ H R => ta σ H fun vs H1 => ∃ x, vs = [.str x] ∧ R (ItES x) H1
theorem pi_enumS {e : Expr} {ta : TA} {p pos tpos : Pos} {elts : List Expr} {kk : Nat} (hg : Gl X "enumerate") (hm : X.mg "enumerate" = none) (ha : PA X [e] ta) (hs : starEach [e] X.env = [(false, eval e X.env)] := by rfl) :
    PI X (.Tuple elts kk tpos) (.Call (.Name "enumerate" p) [e] [] pos) (iEnumS ta) := by
  refine ⟨fun pins s σ H R I h => ?_⟩
  refine Call_ (ld_blt I hg hm boot_enumerate (PyProof.Rows.callWith_type1 (thn (ha.run pos pins s σ H _ I h) fun us s1 ⟨vs, H1, I1, r1, q1⟩ => ?_) hs rfl))
  obtain ⟨x, ex, q⟩ := q1
  subst ex
  cases r1 with
  | cons r rr =>
    cases rr
    obtain ⟨t, rfl⟩ := r
    refine call_enumerate_str fun h' he hit hsz hk => wpAny_pyIter_enum he ?_
    have I2 : Inv X pins σ H1 { s1 with heap := h' } := I1.kept (t' := s1.toks) hk
    refine ⟨s1.heap.objs.size + 1, [s1.heap.objs.size + 1, s1.heap.objs.size], _, _, H1, rfl, I2, turn_enumS x t s1.heap.objs.size, ⟨Nat.zero_le _, ⟨.none, he⟩, hit⟩, fun b hb => ?_, q⟩
    have e' : b = s1.heap.objs.size + 1 ∨ b = s1.heap.objs.size := by simpa using hb
    have hle : s1.heap.objs.size ≤ b := by
      rcases e' with z | z
      · rw [z]; exact Nat.le_add_right _ _
      · rw [z]; exact Nat.le_refl _
    exact I1.fpOk hle (I1.hok.fresh hle)
def mEnumS (ms : MA) : MI := fun env => (ms env).bind fun p => match p.1 with
  | [.dat (.str x)] => some (enumD 0 ((signs x).map PyData.str), p.2)
  | _ => none
theorem enumS_run {ms : MA} {σ : L2.St} {H : Hp} {R : It → Hp → Prop} (h : tI K (mEnumS ms) σ H R) : iEnumS (tA K ms) σ H R := by
  obtain ⟨B, env, Hk, ds, env', R0, hm, k⟩ := h
  obtain ⟨⟨rs, e1⟩, h1, hm⟩ := Option.bind_eq_some_iff.mp hm
  refine ⟨B, env, Hk, rs, e1, R0, h1, fun vs Hk1 H1 R1 s1 o1 => ?_⟩
  split at hm
  · rename_i x he
    cases hm
    have he : rs = [.dat (.str x)] := he
    subst he
    cases o1 with
    | cons o1 o2 =>
      cases o2
      cases (show Dv K Hk1.k _ (.str x) from o1)
      refine ⟨x, rfl, k _ Hk1 H1 R1 s1 ?_⟩
      intro Hk2 H2 s2 e2 i
      have hl : (signs x).length = x.cps.size := by simp [signs]
      refine ⟨fun d hi => ?_, fun hx => ?_⟩
      · obtain ⟨y, q1, rfl⟩ := enumD_get 0 _ i d hi
        rw [List.getElem?_map] at q1
        obtain ⟨z, q2, rfl⟩ := Option.map_eq_some_iff.mp q1
        have hlt : i < x.cps.size := by rw [← hl]; exact (List.getElem?_eq_some_iff.mp q2).1
        refine ⟨hlt, fun y H' z' => ?_⟩
        obtain ⟨T, c, rfl, hT, rfl, hx⟩ := z'
        have : z = ⟨#[c]⟩ := by
          unfold signs at q2
          rw [List.getElem?_map, Array.getElem?_toList, hx] at q2
          cases q2
          rfl
        subst this
        refine .inr ⟨T, _, _, rfl, rfl, hT, rfl, .cons ?_ (.cons (.str _) .nil)⟩
        rw [Nat.zero_add]
        exact .int _
      · rw [enumD_len, List.length_map, hl] at hx
        exact hx
  · cases hm
theorem vi_enumS {e : Expr} {ms : MA} {p pos tpos : Pos} {elts : List Expr} {kk : Nat} (hm : X.mg "enumerate" = none) (ha : VA X [e] ms) (hg : Gl X "enumerate" := by rfl) (hs : starEach [e] X.env = [(false, eval e X.env)] := by rfl) :
    VI X (.Tuple elts kk tpos) (.Call (.Name "enumerate" p) [e] [] pos) (mEnumS ms) := (pi_enumS hg hm ha hs).imp fun _ _ _ => enumS_run
end
section
variable {β γ : Type} {env e : Sl} {R : Option β} {ms : MA} {K : List PyData → Sl → Option β}
def enumSK (rs : List Res) (e : Sl) (K : List PyData → Sl → Option β) : Option β := match rs with
  | [.dat (.str x)] => K (enumD 0 ((signs x).map PyData.str)) e
  | _ => none
theorem c_enumS (k : bnd (ms env) (fun rs e => enumSK rs e K) = R) : bnd (mEnumS ms env) K = R := by
  rw [← k]; unfold mEnumS bnd enumSK
  cases ms env with
  | none => rfl
  | some p =>
    cases p with
    | mk rs e =>
      rcases rs with _ | ⟨r1, _ | ⟨r2, rs⟩⟩
      · rfl
      · cases r1 with
        | dat d => cases d <;> rfl
        | _ => rfl
      · cases r1 with
        | dat d => cases d <;> rfl
        | _ => rfl
theorem c_enumSK {x : Str} (k : K ((enumI 0 (signs x)).map (eT2 eI eS)) e = R) : enumSK [.dat (eS x)] e K = R := by
  show K (enumD 0 ((signs x).map eS)) e = R
  rw [enum_map]; exact k
end
section
variable {α β γ : Type} {e : Sl} {K : List PyData → Sl → Option β} {ea : α → PyData} {z : Option α}
end
end Cm
namespace Cm
open PySem L2
section
variable {β γ τ : Type} {env e e2 : Sl} {R : Option β} {m ma mb me mo mi : ME} {ms : MA} {i j : Nat} {M : List MC}
theorem c_nameP {K : Res → Sl → Option β} {p : PV} (h : env[i]? = some (.pv p)) (k : K (.pv p) env = R) : bnd (mName i env) K = R := by
  unfold mName; rw [h]; exact k
theorem c_setP {K : Fl → Sl → Option β} {p : PV} (hs : e.set i (.pv p) = e2) (k : K .nx e2 = R) : setK i (.pv p) e K = R := by
  subst hs; exact k
def inK (r : Res) (e : Sl) (K : Res → Sl → Option β) : Option β := (into (r, e)).bind fun q => K (.pv q.1) q.2
theorem c_in {K : Res → Sl → Option β} (k : bnd (m env) (fun r e => inK r e K) = R) : bnd (mIn m env) K = R := by
  rw [← k]; unfold mIn bnd inK
  cases m env with
  | none => rfl
  | some p =>
    cases p with
    | mk r e =>
      simp only [Option.bind_some]
      cases into (r, e) <;> rfl
theorem c_inD {K : Res → Sl → Option β} {d : PyData} (k : K (.pv (.dat d)) e = R) : inK (.dat d) e K = R := k
def pixK (r q : Res) (e : Sl) (K : Res → Sl → Option β) : Option β := (pvR r).bind fun x => match q with
  | .dat (.int i) => (x.ix (sto e) i).bind fun z => K (.pv z) e
  | _ => none
theorem c_pix {K : Res → Sl → Option β} (k : bnd (ma env) (fun r e => bnd (mb e) (fun q e => pixK r q e K)) = R) : bnd (mPix ma mb env) K = R := by
  rw [← k]; unfold mPix bnd pixK
  cases ma env with
  | none => rfl
  | some p =>
    simp only [Option.bind_some]
    cases mb p.2 with
    | none => rfl
    | some q =>
      simp only [Option.bind_some]
      cases pvR p.1 with
      | none => rfl
      | some x =>
        simp only [Option.bind_some]
        cases q with
        | mk r e =>
          cases r with
          | dat d =>
            cases d with
            | int i =>
              show ((x.ix (sto e) i).map fun z => (Res.pv z, e)).bind (fun p => K p.1 p.2) = (x.ix (sto e) i).bind fun z => K (.pv z) e
              cases x.ix (sto e) i <;> rfl
            | _ => rfl
          | _ => rfl
theorem c_pixK {K : Res → Sl → Option β} {r : Res} {x : PV} {i : Int} {h : γ → Option β} {k : PV → Option γ} (hr : pvR r = some x) (hM : sto e = M) (p : ∀ z, K (.pv z) e = (k z).bind h) : pixK r (.dat (.int i)) e K = ((PV.ix M x i).bind k).bind h := by
  subst hM
  unfold pixK
  rw [hr, Option.bind_some]
  show (x.ix (sto e) i).bind _ = _
  cases x.ix (sto e) i with
  | none => rfl
  | some z => exact p z
def psetLK (rx ro q : Res) (e : Sl) (K : Fl → Sl → Option β) : Option β := (pvR rx).bind fun px => (pvR ro).bind fun po => match q with
  | .dat (.int k) => (setLP (sto e) po k px).bind fun M => K .nx (stoPut e M)
  | _ => none
theorem c_psetL {K : Fl → Sl → Option β} (k : bnd (mIn me env) (fun rx e => bnd (mo e) (fun ro e => bnd (mi e) (fun q e => psetLK rx ro q e K))) = R) : bnd (mPsetL me mo mi env) K = R := by
  rw [← k]; unfold mPsetL bnd psetLK
  cases mIn me env with
  | none => rfl
  | some x =>
    simp only [Option.bind_some]
    cases mo x.2 with
    | none => rfl
    | some o =>
      simp only [Option.bind_some]
      cases mi o.2 with
      | none => rfl
      | some q =>
        simp only [Option.bind_some]
        cases pvR x.1 with
        | none => rfl
        | some px =>
          simp only [Option.bind_some]
          cases pvR o.1 with
          | none => rfl
          | some po =>
            simp only [Option.bind_some]
            cases q with
            | mk r e =>
              cases r with
              | dat d =>
                cases d with
                | int i =>
                  show ((setLP (sto e) po i px).map fun M => (Fl.nx, stoPut e M)).bind (fun p => K p.1 p.2) = (setLP (sto e) po i px).bind fun M => K .nx (stoPut e M)
                  cases setLP (sto e) po i px <;> rfl
                | _ => rfl
              | _ => rfl
theorem c_psetLK {K : Fl → Sl → Option β} {rx ro : Res} {x o : PV} {d : PyData} {h : γ → Option β} {k : List MC → Option γ} (E : List MC → Sl) (hx : pvR rx = some x) (ho : pvR ro = some o) (hM : sto e = M) (hE : ∀ M', stoPut e M' = E M') (p : ∀ M', K .nx (E M') = (k M').bind h) : psetLK rx ro (.dat d) e K = (((asI d).bind fun i => setLP M o i x).bind k).bind h := by
  subst hM
  unfold psetLK
  rw [hx, ho, Option.bind_some, Option.bind_some]
  cases d with
  | int i =>
    show (setLP (sto e) o i x).bind (fun M => K .nx (stoPut e M)) = ((setLP (sto e) o i x).bind k).bind h
    cases setLP (sto e) o i x with
    | none => rfl
    | some M' =>
      show K .nx (stoPut e M') = _
      rw [hE]
      exact p M'
  | _ => rfl
def pmK (g : GM) (x : PV) (rs : List Res) (e : Sl) (K : Res → Sl → Option β) : Option β := (pvRs rs).bind fun ps => (g (sto e) x ps).bind fun z => K (.pv z.1) (stoPut e z.2)
def pmK0 (g : GM) (ms : MA) (r : Res) (e : Sl) (K : Res → Sl → Option β) : Option β := (pvR r).bind fun x => if isLP (sto e) x = true then bnd (ms e) (fun rs e => pmK g x rs e K) else none
theorem c_pm {K : Res → Sl → Option β} {g : GM} (k : bnd (mo env) (fun r e => pmK0 g ms r e K) = R) : bnd (mPM g mo ms env) K = R := by
  rw [← k]; unfold mPM bnd pmK0 pmK
  cases mo env with
  | none => rfl
  | some o =>
    simp only [Option.bind_some]
    cases pvR o.1 with
    | none => rfl
    | some x =>
      simp only [Option.bind_some]
      by_cases hl : isLP (sto o.2) x = true
      · rw [if_pos hl, if_pos hl]
        cases hm : ms o.2 with
        | none => simp only [bnd, hm]; rfl
        | some p =>
          simp only [bnd, hm, Option.bind_some]
          cases pvRs p.1 with
          | none => rfl
          | some ps =>
            simp only [Option.bind_some]
            cases g (sto p.2) x ps <;> rfl
      · rw [if_neg hl, if_neg hl]; rfl
theorem c_pmK0 {K : Res → Sl → Option β} {g : GM} {r : Res} {x : PV} {h : γ → Option β} {k : Unit → Option γ} (hr : pvR r = some x) (hM : sto e = M) (p : ∀ u, bnd (ms e) (fun rs e => pmK g x rs e K) = (k u).bind h) : pmK0 g ms r e K = ((gd (isLP M x = true)).bind k).bind h := by
  subst hM
  unfold pmK0 gd
  rw [hr, Option.bind_some]
  by_cases hl : isLP (sto e) x = true
  · rw [if_pos hl, if_pos hl]; exact p ()
  · rw [if_neg hl, if_neg hl]; rfl
theorem c_pmK {K : Res → Sl → Option β} {g : GM} {x : PV} {rs : List Res} {h : γ → Option β} {k : PV × List MC → Option γ} (ps : List PV) (E : List MC → Sl) (hr : pvRs rs = some ps) (hM : sto e = M) (hE : ∀ M', stoPut e M' = E M') (p : ∀ z : PV × List MC, K (.pv z.1) (E z.2) = (k z).bind h) : pmK g x rs e K = ((g M x ps).bind k).bind h := by
  subst hM
  unfold pmK
  rw [hr, Option.bind_some]
  cases g (sto e) x ps with
  | none => rfl
  | some z =>
    show K (.pv z.1) (stoPut e z.2) = _
    rw [hE]
    exact p z
def ptupK (rs : List Res) (e : Sl) (K : Res → Sl → Option β) : Option β := (pvRs rs).bind fun ps => if ps.length ≤ 100000 then K (.pv (.tup ps)) e else none
theorem c_ptup {K : Res → Sl → Option β} (k : bnd (ms env) (fun rs e => ptupK rs e K) = R) : bnd (mPtup ms env) K = R := by
  rw [← k]; unfold mPtup bnd ptupK
  cases ms env with
  | none => rfl
  | some p =>
    simp only [Option.bind_some]
    cases pvRs p.1 with
    | none => rfl
    | some ps =>
      simp only [Option.bind_some]
      by_cases hl : ps.length ≤ 100000
      · rw [if_pos hl, if_pos hl]; rfl
      · rw [if_neg hl, if_neg hl]; rfl
theorem c_ptupK {K : Res → Sl → Option β} {rs : List Res} {ps : List PV} (hr : pvRs rs = some ps) (hl : ps.length ≤ 100000) (p : K (.pv (.tup ps)) e = R) : ptupK rs e K = R := by
  unfold ptupK
  rw [hr, Option.bind_some, if_pos hl]
  exact p
def plstK (rs : List Res) (e : Sl) (K : Res → Sl → Option β) : Option β := (pvRs rs).bind fun ps => match e[e.length - 1]? with
  | some (.sto M) => if ps.length ≤ 100000 then K (.pv (.ref M.length)) (stoPut e (M ++ [.lst ps])) else none
  | _ => none
theorem c_plst {K : Res → Sl → Option β} (k : bnd (ms env) (fun rs e => plstK rs e K) = R) : bnd (mPlst ms env) K = R := by
  rw [← k]; unfold mPlst bnd plstK
  cases ms env with
  | none => rfl
  | some p =>
    simp only [Option.bind_some]
    cases pvRs p.1 with
    | none => rfl
    | some ps =>
      simp only [Option.bind_some]
      cases p.2[p.2.length - 1]? with
      | none => rfl
      | some s =>
        cases s with
        | sto M =>
          simp only []
          by_cases hl : ps.length ≤ 100000
          · rw [if_pos hl, if_pos hl]; rfl
          · rw [if_neg hl, if_neg hl]; rfl
        | _ => rfl
theorem c_plstK {K : Res → Sl → Option β} {rs : List Res} {ps : List PV} {h : γ → Option β} {k : List MC → Option γ} (M : List MC) (E : List MC → Sl) (hr : pvRs rs = some ps) (hM : e[e.length - 1]? = some (.sto M)) (hl : ps.length ≤ 100000) (hE : ∀ M', stoPut e M' = E M') (p : ∀ M', K (.pv (.ref M.length)) (E M') = (k M').bind h) : plstK rs e K = ((some (M ++ [.lst ps])).bind k).bind h := by
  unfold plstK
  rw [hr, Option.bind_some, hM]
  simp only [if_pos hl, hE, Option.bind_some]
  exact p _
end
section
variable {α β γ ρ σ τ : Type} {E : σ → Sl} {oR : ρ → Res} {eR : ρ → Sl} {g : MGP} {b : MS} {env e e2 : Sl} {R : Option β}
open Classical in
noncomputable def forPP (G : σ → Prop) (body : PV → σ → Option (Fw ρ σ)) : List PV → σ → Option (Fw ρ σ)
  | [], s => if G s then some (.nx s) else none
  | x :: xs, s => if G s then (body x s).bind fun w => match w with
    | .nx s => forPP G body xs s
    | .bk s => some (.nx s)
    | .rt r => some (.rt r) else none
theorem forPL_R {G : Gd} {Gs : σ → Prop} {body : PV → σ → Option (Fw ρ σ)} (hG : ∀ s, G (E s) = Gs s) (hb : ∀ x s, (g x (E s)).bind b = (body x s).map (outB oR eR E)) : ∀ (xs : List PV) (s : σ), forPL G g b xs (E s) = (forPP Gs body xs s).map (outL oR eR E)
  | [], s => by
    unfold forPL forPP
    rw [hG]
    by_cases h : Gs s
    · rw [if_pos h, if_pos h]; rfl
    · rw [if_neg h, if_neg h]; rfl
  | x :: xs, s => by
    unfold forPL forPP
    rw [hG]
    by_cases h : Gs s
    · rw [if_pos h, if_pos h]
      show ((g x (E s)).bind fun e1 => (b e1).bind _) = _
      rw [← Option.bind_assoc, hb x s]
      cases body x s with
      | none => rfl
      | some w =>
        cases w with
        | nx s' => exact forPL_R hG hb xs s'
        | bk s' => rfl
        | rt r => rfl
    · rw [if_neg h, if_neg h]; rfl
theorem c_forP {mi : MIP} {K : Fl → Sl → Option β} (k : bnd (mi env) (fun q e => bnd (forPL q.2 g b q.1 e) K) = R) : bnd (mForP mi g b env) K = R := by
  rw [← k]; unfold mForP bnd
  cases mi env <;> rfl
def itPK (r : Res) (e : Sl) (K : List PV × Gd → Sl → Option β) : Option β := match r with
  | .pv (.ref n) => match (sto e)[n]? with
    | some (.lst ps) => K (ps, fun e => (sto e)[n]? = some (MC.lst ps)) e
    | _ => none
  | _ => none
theorem c_itP {m : ME} {K : List PV × Gd → Sl → Option β} (k : bnd (m env) (fun r e => itPK r e K) = R) : bnd (mItP m env) K = R := by
  rw [← k]; unfold mItP bnd itPK
  cases m env with
  | none => rfl
  | some p =>
    cases p with
    | mk r e =>
      simp only [Option.bind_some]
      cases r with
      | pv x =>
        cases x with
        | ref n =>
          show (match (sto e)[n]? with | some (.lst ps) => some ((ps, fun e => (sto e)[n]? = some (MC.lst ps)), e) | _ => none : Option ((List PV × Gd) × Sl)).bind _ = (match (sto e)[n]? with | some (.lst ps) => K (ps, fun e => (sto e)[n]? = some (MC.lst ps)) e | _ => none)
          cases (sto e)[n]? with
          | none => rfl
          | some c => cases c <;> rfl
        | _ => rfl
      | _ => rfl
def pItP (M : List MC) (x : PV) : Option (Nat × List PV) := match x with
  | .ref n => match M[n]? with
    | some (.lst ps) => some (n, ps)
    | _ => none
  | _ => none
theorem c_itPK {K : List PV × Gd → Sl → Option β} {x : PV} {M : List MC} {h : γ → Option β} {k : Nat × List PV → Option γ} (hM : sto e = M) (p : ∀ z : Nat × List PV, K (z.2, fun e => (sto e)[z.1]? = some (MC.lst z.2)) e = (k z).bind h) : itPK (.pv x) e K = ((pItP M x).bind k).bind h := by
  subst hM
  unfold itPK pItP
  cases x with
  | ref n =>
    show (match (sto e)[n]? with | some (.lst ps) => K (ps, fun e => (sto e)[n]? = some (MC.lst ps)) e | _ => none) = ((match (sto e)[n]? with | some (.lst ps) => some (n, ps) | _ => none : Option (Nat × List PV)).bind k).bind h
    cases (sto e)[n]? with
    | none => rfl
    | some c =>
      cases c with
      | lst ps => exact p (n, ps)
      | _ => rfl
  | _ => rfl
theorem c_bodyP {body : Option τ} {out : τ → Fl × Sl} {x : PV} (k : (g x e).bind (fun e => bnd (b e) fun f e => some (f, e)) = body.bind fun z => some (out z)) : (g x e).bind b = body.map out := by
  have h1 : ∀ x : Option (Fl × Sl), bnd x (fun f e => some (f, e)) = x := fun x => by cases x <;> rfl
  simp only [h1] at k
  rw [k]
  cases body <;> rfl
end
section
variable {β γ τ : Type} {env e : Sl} {R : Option β} {ms : MA} {fm : FMM} {io : Option Nat}
def callMK (fm : FMM) (io : Option Nat) (rs : List Res) (e : Sl) (K : Res → Sl → Option β) : Option β := (callM fm io rs e).bind fun q => K q.1 q.2
theorem c_callM {K : Res → Sl → Option β} (k : bnd (ms env) (fun rs e => callMK fm io rs e K) = R) : bnd (mCallM fm io ms env) K = R := by
  rw [← k]; unfold mCallM bnd callMK
  cases ms env <;> rfl
theorem c_callMK {K : Res → Sl → Option β} {rs : List Res} {ins : Sl} {Y : Option τ} {out : τ → Res × Sl × List MC} {bk : τ → Sl} {k : τ → Option γ} {h : γ → Option β} {M : List MC} (hM : e[e.length - 1]? = some (.sto M)) (h2 : argsM io e 0 rs = some ins) (q : fm M ins = Y.map out) (hb : ∀ z, (backV io e rs (out z).2.1).map (fun e2 => stoPut e2 (out z).2.2) = some (bk z)) (p : ∀ z, K (out z).1 (bk z) = (k z).bind h) : callMK fm io rs e K = (Y.bind k).bind h := by
  unfold callMK callM
  rw [hM]
  simp only [h2, Option.bind_some, q]
  cases Y with
  | none => rfl
  | some z =>
    simp only [Option.map_some, Option.bind_some]
    have := hb z
    cases hv : backV io e rs (out z).2.1 with
    | none => rw [hv] at this; cases this
    | some e2 =>
      rw [hv] at this
      simp only [Option.map_some, Option.some.injEq] at this
      simp only [Option.map_some, Option.bind_some, this]
      exact p z
end
section
theorem c_fmSt {τ : Type} {np n : Nat} {mb : MS} {ins : Sl} {Y : Option τ} {oR : τ → Res} {eR : τ → Sl} {out : τ → Res × Sl} (env : Sl) (h1 : ins.length = np) (h2 : (ins ++ List.replicate (n - np) Slot.no).set (n - 1) (.sto []) = env)
    (k : bnd (mb env) (fun f e => some (f, e)) = Y.bind fun z => some (.rt (oR z), eR z)) (h3 : ∀ z, finR (.rt (oR z), eR z) = some (out z).1) (h4 : ∀ z, ioKept ins (eR z) = true) (h5 : ∀ z, (eR z).take np = (out z).2) : fmSt np n mb ins = Y.map out := by
  have hk : mb env = Y.map fun z => (Fl.rt (oR z), eR z) := c_map k
  unfold fmSt
  rw [if_pos h1, h2, hk]
  cases Y with
  | none => rfl
  | some z =>
    simp only [Option.map_some, Option.bind_some, h3, h4, if_true, h5]
end
end Cm
namespace Cm
open PySem L2
section
variable {α β γ σ τ : Type} {g : MGP} {t : MT} {me : ME} {vs : List Nat} {env e e1 : Sl} {E : σ → Sl} {R : Option β}
end
theorem fmSt_of {np n : Nat} {mb : MS} {ins outs env : Sl} {Y : Option (PV × List MC)} {eR : PV × List MC → Sl} (hb : mb env = Y.map fun z => (Fl.rt (.pv z.1), eR z)) (h1 : ins.length = np) (h2 : (ins ++ List.replicate (n - np) Slot.no).set (n - 1) (.sto []) = env)
    (h4 : ∀ z, ioKept ins (eR z) = true) (h5 : ∀ z, (eR z).take np = outs) (h6 : ∀ z, (eR z)[(eR z).length - 1]? = some (.sto z.2)) : fmSt np n mb ins = (Y.bind fun z => z.1.deep z.2 9).map fun d => (.dat d, outs) := by
  unfold fmSt
  rw [if_pos h1, h2, hb]
  cases Y with
  | none => rfl
  | some z =>
    have hs : sto (eR z) = z.2 := by unfold sto; rw [h6]
    simp only [Option.map_some, Option.bind_some, finR, hs]
    cases z.1.deep z.2 9 with
    | none => rfl
    | some d => simp only [Option.map_some, Option.bind_some, h4, if_true, h5]
end Cm
namespace Cm
open PySem PySem.Spec PyProof.Rows L2
section
variable {P : Program} {w : World} {K : PySem.W.Frag} {mg : Str → Option Value} {base : Heap}
end
end Cm
namespace Cm
open PySem L2
section
variable {σ : Type} {E : σ → Sl} {g : MGP} {b : MS}
end
end Cm
namespace Cm
open PySem L2
end Cm
namespace Cm
open PySem L2
section
variable {β : Type} {e : Sl} {R : Option β}
theorem c_frzSP {K : Res → Sl → Option β} {p : PV} (k : K (.pv p) e = R) : bnd (frzS (.pv p, e)) K = R := k
end
end Cm
namespace Cm
open PySem PySem.Spec PyProof.Rows L2
end Cm
namespace Cm
open PySem PySem.Spec PyProof.Rows L2
open Sem (wp)
section
variable {prog : Program} {w : World} {A : Around} {E : Value → Shared → Prop}
def LsF (h : Heap) (a : Addr) (its : List Value) : Prop := ∃ n, h.get? a = some { cls := .type "list", data := .seq its.toArray n }
theorem LsF.keeps {h h' : Heap} {a : Addr} {its : List Value} (x : LsF h a its) (k : ∀ o, h.get? a = some o → h'.get? a = some o) : LsF h' a its := let ⟨n, e⟩ := x; ⟨n, k _ e⟩
section
variable {R : Result → Shared → Prop} {I : Addr} {fp wr : List Addr} {G : Array GenState → Array GenState → Prop} {n : Nat} {P : Nat → Value → Prop} {St : Nat → Shared → Prop}
end
end
inductive Al2 {α β : Type} (R : α → β → Prop) : List α → List β → Prop
  | nil : Al2 R [] []
  | cons {x : α} {y : β} {xs : List α} {ys : List β} : R x y → Al2 R xs ys → Al2 R (x :: xs) (y :: ys)
section
variable {X : Cx}
end
section
variable {K : PySem.W.Frag}
end
section
variable {β γ : Type} {ms : MA} {env e : Sl} {rs : List Res} {K : Res → Sl → Option β} {R : Option β}
end
end Cm
namespace PySem.W
open PySem PySem.Spec PyProof.Rows
section
variable {prog : Program} {w : World} {A : Around} {E : Value → Shared → Prop} {s : Shared}
end
end PySem.W
namespace Cm
open PySem L2
section
variable {X : Cx} {K : PySem.W.Frag}
end
section
variable {β γ : Type} {ms : MA} {env e : Sl} {rs : List Res} {K : Res → Sl → Option β} {R : Option β}
end
section
variable {K : PySem.W.Frag}
end
end Cm
namespace Cm
open PySem L2
structure Dec {α : Type} (e : α → PyData) where
  f : PyData → Option α
  snd : ∀ d x, f d = some x → e x = d
  cmp : ∀ x, f (e x) = some x
def decS : Dec eS := ⟨fun d => match d with
  | .str i => some i
  | _ => none, fun d x h => by
    cases d <;> cases h
    rfl, fun _ => rfl⟩
section
variable {α β γ δ ε : Type} {a : α → PyData} {b : β → PyData} {c : γ → PyData} {d : δ → PyData} {e : ε → PyData}
theorem dec_all (A : Dec a) : ∀ (ds : List PyData) (xs : List α), mapO A.f ds = some xs → xs.map a = ds
  | [], xs, h => by cases h; rfl
  | y :: ds, xs, h => by
    obtain ⟨z, h1, h2⟩ := Option.bind_eq_some_iff.mp (show (A.f y).bind _ = some xs from h)
    obtain ⟨zs, h3, rfl⟩ := Option.map_eq_some_iff.mp h2
    rw [List.map_cons, A.snd _ _ h1, dec_all A ds zs h3]
theorem dec_map (A : Dec a) : ∀ xs : List α, mapO A.f (xs.map a) = some xs
  | [] => rfl
  | x :: xs => by
    show (A.f (a x)).bind _ = _
    rw [A.cmp, Option.bind_some, dec_map A xs]
    rfl
def decL (A : Dec a) : Dec (eL a) := ⟨fun y => match y with
  | .list ds => mapO A.f ds
  | _ => none, fun y x h => by
    cases y with
    | list ds => exact congrArg PyData.list (dec_all A ds x h)
    | _ => (cases h), fun x => dec_map A x⟩
def decT2 (A : Dec a) (B : Dec b) : Dec (eT2 a b) := ⟨fun y => match y with
  | .tuple [u, v] => (A.f u).bind fun u => (B.f v).map fun v => (u, v)
  | _ => none, fun y x h => by
    split at h
    · obtain ⟨u, h1, h⟩ := Option.bind_eq_some_iff.mp h
      obtain ⟨v, h2, rfl⟩ := Option.map_eq_some_iff.mp h
      show PyData.tuple [a u, b v] = _
      rw [A.snd _ _ h1, B.snd _ _ h2]
    · (cases h), fun x => by
    show ((A.f (a x.1)).bind fun u => (B.f (b x.2)).map fun v => (u, v)) = _
    rw [A.cmp, Option.bind_some, B.cmp]
    rfl⟩
end
section
variable {X : Cx} {K : PySem.W.Frag} {α β γ τ : Type} {js is : List Nat}
theorem fmM_ofG {np n : Nat} {mb : MS} {M : List MC} {ins : Sl} {Y : Option τ} {fl : τ → Fl} {pr : τ → Res} {ms : τ → List MC} {eR outs : τ → Sl} {env : Sl} (hb : mb env = Y.map fun z => (fl z, eR z)) (hp : ∀ z, finM (fl z, eR z) = some (pr z)) (h1 : ins.length = np) (h2 : (ins ++ List.replicate (n - np) Slot.no).set (n - 1) (.sto M) = env)
    (h4 : ∀ z, ioKept ins (eR z) = true) (h5 : ∀ z, (eR z).take np = outs z) (h6 : ∀ z, (eR z)[(eR z).length - 1]? = some (.sto (ms z))) : fmM np n mb M ins = Y.map fun z => (pr z, outs z, ms z) := by
  unfold fmM
  rw [if_pos h1, h2, hb]
  cases Y with
  | none => rfl
  | some z =>
    simp only [Option.map_some, Option.bind_some, hp, h4, if_true, h5, h6]
abbrev MGPs := List PV → Sl → Option Sl
def tGPs (K : PySem.W.Frag) (js : List Nat) (mg : MGPs) : TGs := fun vs σ H Q => ∃ B env Hk ps env', Rel K B env σ Hk H ∧ PvAll K Hk vs ps ∧ mg ps env = some env' ∧
  ∀ σ' Hk' H', Rel K B env' σ' Hk' H' → KSame Hk Hk' → (∀ i, i ∉ js → σ'[i]? = σ[i]?) → σ'.length = σ.length → Q σ' H'
def mgpNil : MGPs := fun ps env => if ps = [] then some env else none
def mgpCons (g : MGP) (gs : MGPs) : MGPs := fun ps env => match ps with
  | p :: ps => (g p env).bind (gs ps)
  | _ => none
def mgpTup (gs : MGPs) : MGP := fun p env => match p with
  | .tup ps => gs ps env
  | _ => none
theorem gpnil_run {vs : List V} {σ : L2.St} {H : Hp} {Q : L2.St → Hp → Prop} (h : tGPs K [] mgpNil vs σ H Q) : gNil vs σ H Q := by
  obtain ⟨B, env, Hk, ps, env', R, hd, hm, k⟩ := h
  unfold mgpNil at hm
  split at hm
  · rename_i e
    subst e
    cases hm
    cases hd
    exact ⟨rfl, k σ _ _ R (.refl _) (fun _ _ => rfl) rfl⟩
  · cases hm
theorem gpcons_run {g : MGP} {gs : MGPs} {vs : List V} {σ : L2.St} {H : Hp} {Q : L2.St → Hp → Prop} (h : tGPs K (js ++ is) (mgpCons g gs) vs σ H Q) : gCons (tGP K js g) (tGPs K is gs) vs σ H Q := by
  obtain ⟨B, env, Hk, ps, env', R, hd, hm, k⟩ := h
  cases hd with
  | nil => cases hm
  | cons a1 a2 =>
    obtain ⟨e1, b1, b2⟩ := Option.bind_eq_some_iff.mp hm
    refine ⟨_, _, rfl, B, env, Hk, _, e1, R, a1, b1, fun σ1 Hk1 H1 R1 s1 d1 l1 => ⟨B, e1, Hk1, _, env', R1, PvAll.mono s1 a2, b2, fun σ2 Hk2 H2 R2 s2 d2 l2 => ?_⟩⟩
    exact k σ2 Hk2 H2 R2 (s1.trans s2) (fun i hi => (d2 i fun z => hi (List.mem_append_right _ z)).trans (d1 i fun z => hi (List.mem_append_left _ z))) (l2.trans l1)
theorem vgps_nil : PGs X [] (tGPs X.K [] mgpNil) := pgs_nil.imp fun _ _ _ _ => gpnil_run
theorem vgps_cons {g : MGP} {gs : MGPs} {e : Expr} {es : List Expr} (h1 : VGP X e js g) (h2 : PGs X es (tGPs X.K is gs)) (hs : (assignEach (e :: es) X.env).map (·.2) = assign e X.env :: (assignEach es X.env).map (·.2) := by rfl) : PGs X (e :: es) (tGPs X.K (js ++ is) (mgpCons g gs)) :=
  (pgs_cons h1 h2 hs).imp fun _ _ _ _ => gpcons_run
theorem gptup_run {gs : MGPs} {n : Nat} (hl : ∀ ps env env', gs ps env = some env' → ps.length = n) {v : V} {σ : L2.St} {H : Hp} {Q : L2.St → Hp → Prop} (h : tGP K js (mgpTup gs) v σ H Q) : gTup K n (tGPs K js gs) v σ H Q := by
  obtain ⟨B, env, Hk, p, env', R, hd, hm, k⟩ := h
  cases p with
  | tup ps =>
    cases hd with
    | tup h1 h2 => exact ⟨_, _, rfl, same_tup R.ex h1.sq, by rw [h2.len]; exact hl _ _ _ hm, B, env, Hk, ps, env', R, h2, hm, k⟩
  | _ => cases hm
theorem mgpnil_len : ∀ ps env env', mgpNil ps env = some env' → ps.length = 0 := fun ps env env' h => by
  unfold mgpNil at h
  split at h
  · rename_i e
    rw [e]
    rfl
  · cases h
theorem mgpcons_len {g : MGP} {gs : MGPs} {n : Nat} (hl : ∀ ps env env', gs ps env = some env' → ps.length = n) : ∀ ps env env', mgpCons g gs ps env = some env' → ps.length = n + 1 := fun ps env env' h => by
  cases ps with
  | nil => cases h
  | cons p ps =>
    obtain ⟨e1, _, g2⟩ := Option.bind_eq_some_iff.mp h
    rw [List.length_cons, hl _ _ _ g2]
theorem vgp_tup {gs : MGPs} {es : List Expr} {kk n : Nat} {pos : Pos} (h : PGs X es (tGPs X.K js gs)) (hl : ∀ ps env env', gs ps env = some env' → ps.length = n) (hc : X.calm = true := by rfl) (hn : (assignEach es X.env).length = n := by rfl) (hst : (assignEach es X.env).findIdx? (·.1) = none := by rfl) : VGP X (.Tuple es kk pos) js (mgpTup gs) :=
  (pg_tup hc h hn hst).imp fun _ _ _ _ => gptup_run hl
def mAsgP (m : ME) (g : MGP) : MS := fun env => (m env).bind fun p => match p.1 with
  | .pv q => (g q p.2).map fun e => (.nx, e)
  | _ => none
theorem asgP_run {m : ME} {g : MGP} {W : WX} {D : Ends} {σ : L2.St} {H : Hp} (h : tS K W (mAsgP m g) D σ H) : tAsg (tE K m) (tGP K js g) D σ H := by
  obtain ⟨B, env, Hk, f, env', R, hm, k⟩ := h
  obtain ⟨⟨r, e1⟩, h1, hm⟩ := Option.bind_eq_some_iff.mp hm
  refine ⟨B, env, Hk, r, e1, R, h1, fun v Hk1 H1 R1 s1 o1 => ?_⟩
  cases r with
  | pv p =>
    obtain ⟨e2, h2, hm⟩ := Option.map_eq_some_iff.mp hm
    cases hm
    exact ⟨B, e1, Hk1, p, _, R1, o1, h2, fun σ' Hk2 H2 R2 s2 _ _ => k σ' Hk2 H2 R2 (s1.trans s2)⟩
  | _ => cases hm
theorem vs_asgP {tg e : Expr} {m : ME} {g : MGP} {js : List Nat} {pos : Pos} (he : VE X e m) (hg : VGP X tg js g) (hs : swapsWithSole [tg] e pos.line X.env = pure false := by rfl) (hw : swappedStores [tg] e X.env = pure none := by rfl)
    (h1 : (assignEach [tg] X.env).map (·.2) = [assign tg X.env] := by rfl) : VS X (.Assign [tg] e pos) (mAsgP m g) := fun W _ => (ps_asg he hg hs hw h1).imp fun _ _ _ => asgP_run
end
section
variable {β γ : Type} {m : ME} {env e e2 : Sl} {R : Option β}
def asgPK (g : MGP) (r : Res) (e : Sl) (K : Fl → Sl → Option β) : Option β := match r with
  | .pv q => (g q e).bind fun e => K .nx e
  | _ => none
theorem c_asgP {g : MGP} {K : Fl → Sl → Option β} (k : bnd (m env) (fun r e => asgPK g r e K) = R) : bnd (mAsgP m g env) K = R := by
  rw [← k]
  unfold mAsgP bnd
  cases m env with
  | none => rfl
  | some p =>
    obtain ⟨r, e⟩ := p
    cases r with
    | pv q =>
      show ((g q e).map _).bind _ = (g q e).bind _
      cases g q e <;> rfl
    | _ => rfl
theorem c_gpcons {g : MGP} {gs : MGPs} {p : PV} {ps : List PV} {K : Sl → Option β} (k : (g p e).bind (fun e => (gs ps e).bind K) = R) : (mgpCons g gs (p :: ps) e).bind K = R := by
  rw [← k]
  show ((g p e).bind _).bind K = _
  cases g p e <;> rfl
theorem c_gpnil {K : Sl → Option β} (k : K e = R) : (mgpNil [] e).bind K = R := k
end
section
variable {X : Cx} {K : PySem.W.Frag}
end
end Cm
namespace Cm
open PySem PySem.Spec PyProof.Rows L2
section
variable {P : Program} {w : World} {A : Around} {E : Value → Shared → Prop} {s : Shared} {a : Addr} {es : Array (Int × Value)} {t : SetTable} {ps : List (Str × Tok)}
abbrev cellT (w : World) (p : Str × Tok) : Int × Value := (hashStr w p.1, .str p.1 p.2)
structure TabT (w : World) (es : Array (Int × Value)) (t : SetTable) (ps : List (Str × Tok)) : Prop where
  cells : es.toList.Perm (ps.map (cellT w))
  fits : t.fits es.size = true
  ris : Ris t.place.toList
  led : w.params.followText "set-order" = true ∨ t.led = true
theorem TabT.size (R : TabT w es t ps) : es.size = ps.length := by
  have := R.cells.length_eq
  rwa [Array.length_toList, List.length_map] at this
theorem TabT.lay (R : TabT w es t ps) (p : Str × Tok) : TabT w (layNew t es (hashStr w p.1) (.str p.1 p.2)).1 (layNew t es (hashStr w p.1) (.str p.1 p.2)).2.1 (ps ++ [p]) where
  cells := by
    refine (layNew_perm t es _ _).trans ?_
    rw [Array.toList_push, List.map_append]
    exact R.cells.append_right _
  fits := layNew_fits ..
  ris := layNew_ris _ _ _ _ R.ris
  led := R.led.imp id fun z => (layNew_led ..).trans z
def SetT (w : World) (h : Heap) (a : Addr) (ps : List (Str × Tok)) : Prop := (ps.map Prod.fst).Nodup ∧ ps.length < scanBound ∧ ∃ o es ep t, h.get? a = some o ∧ o.ExactSet ∧ o.data = .set es ep t ∧ TabT w es t ps
theorem SetT.at {h h' : Heap} (R : SetT w h a ps) (k : ∀ o, h.get? a = some o → h'.get? a = some o) : SetT w h' a ps := by
  obtain ⟨nd, hb, o, es, ep, t, ho, r⟩ := R
  exact ⟨nd, hb, o, es, ep, t, k o ho, r⟩
end
section
variable {X : Cx}
end
section
variable {X : Cx} {K : PySem.W.Frag}
end
section
variable {β γ : Type} {env e : Sl} {R : Option β} {m : ME} {K : Res → Sl → Option β}
end
section
variable {X : Cx} {K : PySem.W.Frag}
end
end Cm
namespace Cm
open PySem PySem.Calls PyProof.Rows L2
open PySem.W (EachIs SortsAt KeyedOut KeepsBut AllAlike Sortable alike sortVals keyH_end keyedOut_each bound_map copyHeap copyHeap_at copyHeap_old sorted_of_sort)
section
variable {P : Program} {w : World} {A : Around} {E : Value → Shared → Prop} {s : Shared} {a kS N : Addr} {e1 : Nat} {R : PySem.Fin → Shared → Prop} {v : Value} {d : PyData}
def Low (N : Addr) (h : Heap) (v : Value) (d : PyData) : Prop := ∃ as, Reads h v d as ∧ ∀ x ∈ as, x < N
theorem Low.keeps {h h' : Heap} (l : Low N h v d) (k : ∀ b o, h.get? b = some o → h'.get? b = some o) : Low N h' v d := l.imp fun as q => ⟨Reads.keeps k q.1, q.2⟩
theorem Low.more {g : Heap} {keys : Array Value} {e : Nat} {x : Value} (lies : g.get? kS = some (seqObj "list" keys e)) (hN : N ≤ kS) (al : alike d d = true) (l : Low N g v d) : Low N (g.update kS (Obj.mapSeq (·.push x))) v d := by
  obtain ⟨as, r, q⟩ := l
  have same := Heap.SameBut.update g kS (Obj.mapSeq (·.push x))
  refine ⟨as, PySem.W.Reads.keepBut (a := kS) (fun b o hb e => (same.2 b hb).trans e) (fun o e => ?_) d v as al r (fun h => ?_), q⟩
  · rw [lies] at e
    cases e
    rfl
  · exact absurd (Nat.lt_of_lt_of_le (q kS h) hN) (Nat.lt_irrefl _)
end
end Cm
namespace Cm
open PySem PySem.Calls PyProof.Rows L2
mutual
theorem reads_in {h : Heap} : ∀ (d : PyData) {v : Value} {as : List Addr}, Reads h v d as → ∀ x ∈ as, x < h.objs.size
  | .none, _, _, r, x, hx => by cases r; cases hx
  | .bool _, _, _, r, x, hx => by cases r; cases hx
  | .int _, _, _, r, x, hx => by cases r; cases hx
  | .str _, _, _, r, x, hx => by cases r; cases hx
  | .list ds, _, _, r, x, hx => by
    cases r with
    | list h1 h2 h3 h4 =>
      rcases List.mem_cons.mp hx with rfl | hx
      · exact Heap.lt_size h1
      · exact readsAll_in ds h4 x hx
  | .tuple ds, _, _, r, x, hx => by
    cases r with
    | tuple h1 h2 h3 h4 => exact readsAll_in ds h4 x hx
  | .dict es, _, _, r, x, hx => by
    cases r with
    | @dict a o es' n kvs as bs h1 h2 h3 h4 h5 =>
      have k1 := readsAll_inK es h4
      have k2 := readsAll_inV es h5
      rcases List.mem_append.mp hx with hx | hx
      · rcases List.mem_cons.mp hx with rfl | hx
        · exact Heap.lt_size h1
        · exact k1 x hx
      · exact k2 x hx
theorem readsAll_in {h : Heap} : ∀ (ds : List PyData) {vs : List Value} {as : List Addr}, ReadsAll h vs ds as → ∀ x ∈ as, x < h.objs.size
  | [], _, _, r, x, hx => by cases r; cases hx
  | d :: ds, _, _, r, x, hx => by
    cases r with
    | cons r1 r2 =>
      rcases List.mem_append.mp hx with hx | hx
      · exact reads_in d r1 x hx
      · exact readsAll_in ds r2 x hx
theorem readsAll_inK {h : Heap} : ∀ (ds : List (PyData × PyData)) {vs : List Value} {as : List Addr}, ReadsAll h vs (ds.map (·.1)) as → ∀ x ∈ as, x < h.objs.size
  | [], _, _, r, x, hx => by cases r; cases hx
  | (k, d) :: ds, _, _, r, x, hx => by
    cases r with
    | cons r1 r2 =>
      rcases List.mem_append.mp hx with hx | hx
      · exact reads_in k r1 x hx
      · exact readsAll_inK ds r2 x hx
theorem readsAll_inV {h : Heap} : ∀ (ds : List (PyData × PyData)) {vs : List Value} {as : List Addr}, ReadsAll h vs (ds.map (·.2)) as → ∀ x ∈ as, x < h.objs.size
  | [], _, _, r, x, hx => by cases r; cases hx
  | (k, d) :: ds, _, _, r, x, hx => by
    cases r with
    | cons r1 r2 =>
      rcases List.mem_append.mp hx with hx | hx
      · exact reads_in d r1 x hx
      · exact readsAll_inV ds r2 x hx
end
section
variable {X : Cx} {K : PySem.W.Frag} {B : Fb} {env : Sl} {σ : L2.St} {Hk H : Hp}
end
section
variable {α : Type}
end
end Cm
namespace Cm
open PySem L2
section
variable {β : Type} {env : Sl} {R : Option β} {b : MS} {K : Fl → Sl → Option β}
end
end Cm
namespace Cm
open PySem L2
mutual
def noDc : PyData → Bool
  | .dict _ => false
  | .list ds => noDcs ds
  | .tuple ds => noDcs ds
  | _ => true
def noDcs : List PyData → Bool
  | [] => true
  | d :: ds => noDc d && noDcs ds
end
def Kn.but (Hk3 Hk : Kn) (a : Addr) : Kn := ⟨fun b => if b = a then none else Hk3.k b, Hk.P⟩
theorem rd_but {Hk3 Hk : Kn} {a b : Addr} {u : HO} {kvs : List (Key × V)} (ha : Rd Hk3.k a (.dK kvs)) (h : Rd Hk3.k b u) (hu : (∃ xs, u = .lst xs) ∨ ∃ xs, u = .tup xs) : Rd (Hk3.but Hk a).k b u := by
  have ne : b ≠ a := by
    rintro rfl
    rcases hu with ⟨xs, rfl⟩ | ⟨xs, rfl⟩ <;> rcases ha with ha | ⟨o, ha⟩ <;> rcases h with h | ⟨o', h⟩ <;> rw [ha] at h <;> cases h
  have e : (Hk3.but Hk a).k b = Hk3.k b := if_neg ne
  unfold Rd
  rw [e]
  exact h
section
variable {X : Cx} {K : PySem.W.Frag} {Hk3 Hk : Kn} {a : Addr} {kvs : List (Key × V)}
mutual
theorem dv_but (ha : Rd Hk3.k a (.dK kvs)) : ∀ {v : V} {d : PyData}, noDc d = true → Dv K Hk3 v d → Dv K (Hk3.but Hk a) v d
  | _, _, _, .non => .non
  | _, _, _, .bl b => .bl b
  | _, _, _, .int i => .int i
  | _, _, _, .str x => .str x
  | _, .list ds, h, .lst (a := l) (xs := xs) q1 q2 => by
    have h : noDcs ds = true := by simpa [noDc] using h
    have q3 : Rd (Hk3.but Hk a).k l (.lst xs) := rd_but ha (.inl q1) (.inl ⟨_, rfl⟩)
    have q4 : (Hk3.but Hk a).k l = some (.lst xs) := by
      rcases q3 with q3 | ⟨o, q3⟩
      · exact q3
      · exfalso
        by_cases e : l = a
        · have : (Hk3.but Hk a).k l = none := if_pos e
          rw [this] at q3
          cases q3
        · have : (Hk3.but Hk a).k l = Hk3.k l := if_neg e
          rw [this, q1] at q3
          cases q3
    exact .lst q4 (dvAll_but ha h q2)
  | _, .tuple ds, h, .tup q1 q2 => by
    have h : noDcs ds = true := by simpa [noDc] using h
    refine .tup ?_ (dvAll_but ha h q2)
    rcases q1 with q1 | q1
    · exact .inl (rd_but ha q1 (.inr ⟨_, rfl⟩))
    · exact .inr q1
  | _, _, h, .dct _ _ => by simp [noDc] at h
theorem dvAll_but (ha : Rd Hk3.k a (.dK kvs)) : ∀ {vs : List V} {ds : List PyData}, noDcs ds = true → DvAll K Hk3 vs ds → DvAll K (Hk3.but Hk a) vs ds
  | _, _, _, .nil => .nil
  | _, d :: ds, h, .cons h1 h2 => by
    have h : noDc d = true ∧ noDcs ds = true := by simpa [noDcs] using h
    exact .cons (dv_but ha h.1 h1) (dvAll_but ha h.2 h2)
end
end
section
variable {X : Cx} {K : PySem.W.Frag}
end
section
variable {β γ : Type} {env e e2 : Sl} {R : Option β} {m : ME} {K : Res → Sl → Option β} {i : Nat}
end
end Cm
namespace Cm
open PySem L2
def PV.fld (C : Str) (M : List MC) (x : PV) (f : Str) : Option PV := match x with
  | .ref n => match M[n]? with
    | some (.ins D fs) => if D = C then fs.lookup f else none
    | some (.kn (.ins D fs)) => if D = C then fs.lookup f else none
    | _ => none
  | _ => none
def PV.deepK (M : List MC) : Nat → PV → Option PyData
  | _, .dat d => some d
  | 0, _ => none
  | f + 1, .tup ps => (rdAllP (PV.deepK M f) ps).map .tuple
  | f + 1, .ref n => match M[n]? with
    | some (.kn (.lst ps)) => (rdAllP (PV.deepK M f) ps).map .list
    | some (.kn (.dct es)) => (rdAllK (PV.deepK M f) es).map .dict
    | some (.lk es) => some (.dict es)
    | _ => none
def mKn (m : ME) : ME := fun env => (m env).bind fun p => (pvR p.1).bind fun x => (x.deepK (sto p.2) 9).map fun d => (.dat d, p.2)
def PV.asD : PV → Option PyData
  | .dat d => some d
  | _ => none
def mDat (m : ME) : ME := fun env => (m env).bind fun p => (pvR p.1).bind fun x => x.asD.map fun d => (.dat d, p.2)
def MC.knd : MC → MC
  | .lst ps => .kn (.lst ps)
  | .dct es => .kn (.dct es)
  | .ins C fs => .kn (.ins C fs)
  | c => c
def lentM (l : Option Nat) (M : List MC) : Option (List MC) := match l with
  | none => some (M.map MC.knd)
  | some n => match M[n]? with
    | some (.dct es) => (datsK es).map fun ds => (M.map MC.knd).set n (.lk ds)
    | _ => none
def lentSlotK (M' : List MC) : Slot → Slot
  | .own c => .val c.dat
  | .io _ c => .val c.dat
  | .sto _ => .sto M'
  | .pin _ => .no
  | s => s
def lkAt (lk : Option ME) (env : Sl) : Option (Option Nat) := match lk with
  | none => some none
  | some m => (m env).bind fun p => match p.1 with
    | .pv (.ref n) => some (some n)
    | _ => none
def stoOf (env : Sl) : Option (List MC) := match env[env.length - 1]? with
  | some (.sto M) => some M
  | _ => none
def mLendK (lk : Option ME) (m : ME) : ME := fun env => (stoOf env).bind fun M => (lkAt lk env).bind fun l => (lentM l M).bind fun M' => (m (env.map (lentSlotK M'))).bind fun p => if resFlat p.1 = true then some (p.1, env) else none
def mLendKT (m : MT) : MT := fun env => (stoOf env).bind fun M => (lentM none M).bind fun M' => (m (env.map (lentSlotK M'))).bind fun p => some (p.1, env)
section
variable {X : Cx} {K : PySem.W.Frag} {B : Fb} {env env' : Sl} {σ : L2.St} {Hk Hk' : Kn} {H H' : Hp}
theorem Rel.deepK (R : Rel K B env σ Hk H) : ∀ (f : Nat) {p : PV} {v : V} {d : PyData}, PvOk K Hk v p → p.deepK (sto env) f = some d → Dv K Hk v d
  | f, .dat d', v, d, h, e => by
    have e : some d' = some d := by cases f <;> exact e
    cases e
    cases h with
    | dat q => exact q
  | 0, .tup ps, v, d, h, e => by cases e
  | 0, .ref n, v, d, h, e => by cases e
  | f + 1, .tup ps, v, d, h, e => by
    obtain ⟨ds, h3, rfl⟩ := Option.map_eq_some_iff.mp e
    cases h with
    | @tup a vs _ q1 q2 => exact .tup q1.sq (deepAll (fun w g => Rel.deepK R f w g) q2 h3)
  | f + 1, .ref n, v, d, h, e => by
    cases h with
    | @ref a _ q =>
      unfold PV.deepK at e
      cases hc : (sto env)[n]? with
      | none => simp only [hc] at e; cases e
      | some c =>
        obtain ⟨hS, b, g1, g2, g3⟩ := R.stoAt hc
        rw [q] at g1
        cases g1
        simp only [hc] at e
        clear hc
        cases c with
        | lk es =>
          cases e
          obtain ⟨od, kvs, h1, h2⟩ := g2
          exact .dct (.inr ⟨od, h1⟩) h2
        | kn c' =>
          cases c' with
          | lst ps =>
            obtain ⟨ds, h3, rfl⟩ := Option.map_eq_some_iff.mp e
            obtain ⟨vs, h4, q2⟩ := g2
            exact .lst h4 (deepAll (fun w g => Rel.deepK R f w g) q2 h3)
          | dct ps =>
            obtain ⟨ds, h3, rfl⟩ := Option.map_eq_some_iff.mp e
            obtain ⟨vs, h4, q2⟩ := g2
            exact .dct (.inl h4) (deepKv (fun w g => Rel.deepK R f w g) q2 h3)
          | _ => cases e
        | _ => cases e
theorem kn_run {m : ME} {Q : VK} (h : tE K (mKn m) σ H Q) : tE K m σ H Q := by
  obtain ⟨B, env, Hk, res, env', R, hm, k⟩ := h
  obtain ⟨⟨r1, e1⟩, h1, hm⟩ := Option.bind_eq_some_iff.mp hm
  obtain ⟨x, h2, hm⟩ := Option.bind_eq_some_iff.mp hm
  obtain ⟨d, h3, hm⟩ := Option.map_eq_some_iff.mp hm
  cases hm
  exact ⟨B, env, Hk, r1, e1, R, h1, fun v Hk1 H1 R1 s1 o1 => k v Hk1 H1 R1 s1 (R1.deepK 9 (o1.pvR h2) h3)⟩
theorem ve_kn {e : Expr} {m : ME} (h : VE X e m) : VE X e (mKn m) := h.imp fun _ _ _ => kn_run
theorem dat_run {m : ME} {Q : VK} (h : tE K (mDat m) σ H Q) : tE K m σ H Q := by
  obtain ⟨B, env, Hk, res, env', R, hm, k⟩ := h
  obtain ⟨⟨r1, e1⟩, h1, hm⟩ := Option.bind_eq_some_iff.mp hm
  obtain ⟨x, h2, hm⟩ := Option.bind_eq_some_iff.mp hm
  obtain ⟨d, h3, hm⟩ := Option.map_eq_some_iff.mp hm
  cases hm
  refine ⟨B, env, Hk, r1, e1, R, h1, fun v Hk1 H1 R1 s1 o1 => k v Hk1 H1 R1 s1 ?_⟩
  have o2 := o1.pvR h2
  cases x with
  | dat d' =>
    cases h3
    cases o2 with
    | dat q => exact q
  | _ => cases h3
theorem ve_dat {e : Expr} {m : ME} (h : VE X e m) : VE X e (mDat m) := h.imp fun _ _ _ => dat_run
open Classical in
noncomputable def lentKK (env : Sl) (σ : L2.St) (Hk : Kn) (H H' : Hp) : Hp := fun x =>
  if (∃ (j : Nat) (s : Slot), env[j]? = some s ∧ s.mut ∧ σ[j]? = some (some (V.ref x))) ∨ (∃ (n : Nat) (c : MC), (sto env)[n]? = some c ∧ c.live ∧ Hk.P n = some x) ∨
    (∃ (n : Nat) (c : MC) (b C : Addr) (vs : List (Str × V)), (sto env)[n]? = some c ∧ c.live ∧ Hk.P n = some b ∧ H b = some (.ins C x vs) ∧ H x = some (.own b)) then H' x else Hk x
structure Lkd (Hk : Kn) (H H' : Hp) (L : Addr → Prop) : Prop where
  out : ∀ x, ¬ L x → H' x = H x
  at_ : ∀ x, L x → Hk x = none ∧ (∃ n, Hk.P n = some x) ∧ ∃ od kvs, H x = some (.dK kvs) ∧ H' x = some (.frz od (.dK kvs))
theorem Lkd.same {L : Addr → Prop} (l : Lkd Hk H H' L) (e : Same Hk H) : Same Hk H' := fun a o h => by
  by_cases z : L a
  · rw [(l.at_ a z).1] at h; cases h
  · rw [l.out a z]; exact e _ _ h
theorem Lkd.there {L : Addr → Prop} (l : Lkd Hk H H' L) {a : Addr} (h : H a ≠ none) : H' a ≠ none := by
  by_cases z : L a
  · obtain ⟨_, _, od, kvs, _, w⟩ := l.at_ a z
    exact ne_none w
  · rw [l.out a z]; exact h
theorem lentKK_same (R : Rel K B env σ Hk H) {L : Addr → Prop} (l : Lkd Hk H H' L) : Same Hk (lentKK env σ Hk H H') := fun a o e => by
  unfold lentKK
  split
  · exact l.same R.ex _ _ e
  · exact e
theorem lentKK_ex (R : Rel K B env σ Hk H) {L : Addr → Prop} (l : Lkd Hk H H' L) : Same (lentKK env σ Hk H H') H' := fun a o e => by
  unfold lentKK at e
  split at e
  · exact e
  · exact l.same R.ex _ _ e
theorem lentKK_new (R : Rel K B env σ Hk H) {L : Addr → Prop} (l : Lkd Hk H H' L) {a : Addr} (h : lentKK env σ Hk H H' a ≠ none) (hk : Hk a = none) : H a ≠ none ∧ ∃ o, H' a = some o ∧ (∀ xs, o ≠ .tup xs) ∧ ∀ u xs, o ≠ .frz u (.tup xs) := by
  by_cases z : L a
  · obtain ⟨_, _, od, kvs, w0, w⟩ := l.at_ a z
    exact ⟨ne_none w0, _, w, (fun x z => by cases z), fun u x z => by cases z⟩
  rw [l.out a z]
  suffices g : ∃ o, H a = some o ∧ (∀ xs, o ≠ .tup xs) ∧ ∀ u xs, o ≠ .frz u (.tup xs) by
    obtain ⟨o, g1, g2⟩ := g
    exact ⟨ne_none g1, o, g1, g2⟩
  unfold lentKK at h
  split at h
  · rename_i hc
    rcases hc with ⟨j, s, h1, h2, h3⟩ | ⟨n, c, h1, h2, h3⟩ | ⟨n, c, b, C, vs, _, _, _, _, h5⟩
    · obtain ⟨o, g1, g2⟩ := R.slot j s h1
      rw [h3] at g1
      cases g1
      have fin : ∀ c, CellAt K Hk H a c → ∃ o, H a = some o ∧ (∀ xs, o ≠ .tup xs) ∧ ∀ u xs, o ≠ .frz u (.tup xs) := fun c hc => by
        cases c with
        | lst ds =>
          obtain ⟨vs, g1, _⟩ := hc
          exact ⟨_, g1, (fun x z => by cases z), fun u x z => by cases z⟩
        | dct ds =>
          obtain ⟨vs, g1, _⟩ := hc
          exact ⟨_, g1, (fun x z => by cases z), fun u x z => by cases z⟩
      cases s with
      | own c => obtain ⟨b, e1, _, _, q⟩ := g2; cases e1; exact fin c q
      | io k c => obtain ⟨b, e1, _, _, q⟩ := g2; cases e1; exact fin c q
      | _ => cases h2
    · obtain ⟨_, b, g1, g2, g3⟩ := R.stoAt h1
      rw [h3] at g1
      cases g1
      cases c with
      | lst ds =>
        obtain ⟨vs, g1, _⟩ := g2
        exact ⟨_, g1, (fun x z => by cases z), fun u x z => by cases z⟩
      | dct ds =>
        obtain ⟨vs, g1, _⟩ := g2
        exact ⟨_, g1, (fun x z => by cases z), fun u x z => by cases z⟩
      | ins C fs =>
        obtain ⟨dx, vs, g1, _⟩ := g2
        exact ⟨_, g1, (fun x z => by cases z), fun u x z => by cases z⟩
      | kn c => cases h2
      | lk es => cases h2
    · exact ⟨_, h5, (fun x z => by cases z), fun u x z => by cases z⟩
  · exact absurd hk h
theorem stoOf_has {M : List MC} (h : stoOf env = some M) : HasSto env M := by
  unfold stoOf at h
  split at h
  · rename_i hM
    cases h
    exact hM
  · cases h
theorem lentK_rel (R : Rel K B env σ Hk H) (hS0 : HasSto env (sto env)) {L : Addr → Prop} (l : Lkd Hk H H' L) {M' : List MC} (hM : M'.length = (sto env).length) (hc : ∀ (n : Nat) c', M'[n]? = some c' → ∃ c, (sto env)[n]? = some c ∧ ((c.live ∧ c' = .kn c ∧ ∀ a, Hk.P n = some a → ¬ L a) ∨ (¬ c.live ∧ c' = c) ∨ (∃ es ds, c = .dct es ∧ datsK es = some ds ∧ c' = .lk ds ∧ ∀ a, Hk.P n = some a → L a))) :
    ∃ B' : Fb, B'.H0 = H' ∧ B'.K0 = ⟨lentKK env σ Hk H H', Hk.P⟩ ∧ (∀ a, ¬ B'.io a) ∧ Rel K B' (env.map (lentSlotK M')) σ ⟨lentKK env σ Hk H H', Hk.P⟩ H' := by
  have sm := lentKK_same R l
  have ksm : KSame Hk ⟨lentKK env σ Hk H H', Hk.P⟩ := ⟨sm, fun _ _ q => q⟩
  refine ⟨⟨⟨lentKK env σ Hk H H', Hk.P⟩, H', fun _ => none, fun _ => none, fun _ => False⟩, rfl, rfl, fun a z => z.elim (fun ⟨k, z⟩ => by cases z) id, ?_⟩
  have own : ∀ (i : Nat) s a c, env[i]? = some s → s.mut → σ[i]? = some (some (V.ref a)) → CellAt K Hk H a c → Dv K (lentKK env σ Hk H H') (.ref a) c.dat := fun i s a c h1 h2 h3 hc => by
    obtain ⟨ob, g1, g2⟩ := hc.obj
    refine g2 _ sm ?_
    have nl : ¬ L a := fun z => by
      obtain ⟨_, ⟨n, hn⟩, _⟩ := l.at_ a z
      exact R.psep i s a n h1 h2 h3 hn
    have : lentKK env σ Hk H H' a = H' a := if_pos (.inl ⟨i, s, h1, h2, h3⟩)
    rw [this, l.out a nl]
    exact g1
  have nomut : ∀ (i : Nat) t, (env.map (lentSlotK M'))[i]? = some t → ¬ t.mut := fun i t hi => by
    rw [List.getElem?_map] at hi
    obtain ⟨s, h1, rfl⟩ := Option.map_eq_some_iff.mp hi
    cases s <;> exact fun z => z
  have known : ∀ (n : Nat) c a, (sto env)[n]? = some c → Hk.P n = some a → lentKK env σ Hk H H' a ≠ none := fun n c a h1 h2 => by
    by_cases lv : c.live
    · have : lentKK env σ Hk H H' a = H' a := if_pos (.inr (.inl ⟨n, c, h1, lv, h2⟩))
      rw [this]
      exact l.there (R.pin n a h2).1
    · obtain ⟨_, b, g1, g2, _⟩ := R.stoAt h1
      rw [h2] at g1
      cases g1
      obtain ⟨o, ho⟩ := Option.ne_none_iff_exists'.mp (g2.known lv)
      exact ne_none (sm _ _ ho)
  refine ⟨lentKK_ex R l, .refl _, fun a h1 h2 => absurd h2 h1, fun a o h _ => h, (fun a z => z.elim (fun ⟨k, z⟩ => by cases z) fun z => z.elim), (fun a z => z.elim (fun ⟨k, z⟩ => by cases z) fun z => z.elim), by rw [List.length_map]; exact R.len, fun i t hi => ?_, fun i j s t a hi _ hm => absurd hm (nomut i s hi), fun M1 hM1 => ?_, fun n a h => ⟨l.there (R.pin n a h).1, fun z => ?_⟩, fun i s a n hi hm => absurd hm (nomut i s hi)⟩
  · rw [List.getElem?_map] at hi
    obtain ⟨s, h1, rfl⟩ := Option.map_eq_some_iff.mp hi
    obtain ⟨o, g1, g2⟩ := R.slot i s h1
    refine ⟨o, g1, ?_⟩
    cases s with
    | no => trivial
    | sto M => trivial
    | pin k => trivial
    | val d =>
      obtain ⟨v, e, q⟩ := g2
      exact ⟨v, e, dv_mono sm _ _ q⟩
    | pv p =>
      obtain ⟨v, e, q⟩ := g2
      exact ⟨v, e, q.mono ksm⟩
    | scr ns =>
      obtain ⟨a, e, q⟩ := g2
      exact ⟨a, e, sm.seq q⟩
    | own c =>
      obtain ⟨a, e, _, _, q⟩ := g2
      subst e
      exact ⟨_, rfl, own i _ a c h1 trivial g1 q⟩
    | io k c =>
      obtain ⟨a, e, _, _, q⟩ := g2
      subst e
      exact ⟨_, rfl, own i _ a c h1 trivial g1 q⟩
  · have eM : M1 = M' ∧ HasSto env (sto env) := by
      unfold HasSto at hM1
      rw [List.length_map, List.getElem?_map] at hM1
      obtain ⟨s, h1, h2⟩ := Option.map_eq_some_iff.mp hM1
      cases s with
      | sto M =>
        have : HasSto env M := h1
        refine ⟨(Slot.sto.inj h2).symm, ?_⟩
        rw [this.sto]
        exact this
      | _ => cases h2
    obtain ⟨rfl, hS⟩ := eM
    have S := R.sok _ hS
    refine ⟨fun n c' h => ?_, S.inj, fun n h => S.top n (by rw [← hM]; exact h)⟩
    obtain ⟨c, g1, g2⟩ := hc n c' h
    obtain ⟨a, w1, w2, w3⟩ := S.cel n c g1
    rcases g2 with ⟨lv, rfl, nl⟩ | ⟨nlv, rfl⟩ | ⟨es, ds, rfl, hd, rfl, hl⟩
    · refine ⟨a, w1, ?_, fun z => z.elim⟩
      have ha : lentKK env σ Hk H H' a = H a := by
        have : lentKK env σ Hk H H' a = H' a := if_pos (.inr (.inl ⟨n, c, g1, lv, w1⟩))
        rw [this, l.out a (nl a w1)]
      show CellM K _ (lentKK env σ Hk H H') a c
      cases c with
      | lst ps =>
        obtain ⟨vs, q1, q2⟩ := w2
        exact ⟨vs, by rw [ha]; exact q1, q2.mono ksm⟩
      | dct ps =>
        obtain ⟨vs, q1, q2⟩ := w2
        exact ⟨vs, by rw [ha]; exact q1, q2.mono ksm⟩
      | ins C fs =>
        obtain ⟨dx, vs, q1, q2, q3⟩ := w2
        refine ⟨dx, vs, by rw [ha]; exact q1, ?_, q3.mono ksm⟩
        have : lentKK env σ Hk H H' dx = H' dx := if_pos (.inr (.inr ⟨n, _, a, _, vs, g1, lv, w1, q1, q2⟩))
        rw [this, l.out dx fun z => by
          obtain ⟨_, _, od, kvs, z1, _⟩ := l.at_ dx z
          rw [q2] at z1
          cases z1]
        exact q2
      | kn c => exact lv.elim
      | lk es => exact lv.elim
    · exact ⟨a, w1, w2.mono ksm (fun o z => l.same R.ex _ _ (by
        obtain ⟨u, hu⟩ := Option.ne_none_iff_exists'.mp (w2.known nlv)
        have := R.ex _ _ hu
        rw [z] at this
        cases this
        exact hu)) (fun dx z => by
        rw [l.out dx fun y => by
          obtain ⟨_, _, od, kvs, z1, _⟩ := l.at_ dx y
          rw [z] at z1
          cases z1]
        exact z), fun z => absurd z nlv⟩
    · refine ⟨a, w1, ?_, fun z => z.elim⟩
      obtain ⟨_, _, od, kvs, z1, z2⟩ := l.at_ a (hl a w1)
      obtain ⟨kvs', q1, q2⟩ := w2
      rw [q1] at z1
      cases z1
      refine ⟨od, kvs, ?_, dvKv_mono sm (datsK_dv q2 hd)⟩
      have : lentKK env σ Hk H H' a = H' a := if_pos (.inr (.inl ⟨n, _, g1, trivial, w1⟩))
      exact this.trans z2
  · -- a place that is pinned is known
    have z : lentKK env σ Hk H H' a = none := z
    by_cases hn : n < (sto env).length
    · exact absurd z (known n _ a (List.getElem?_eq_getElem hn) h)
    · have := (R.sok _ hS0).top n (by omega)
      rw [h] at this
      cases this
theorem knd_of {M : List MC} {n : Nat} {c' : MC} (h : (M.map MC.knd)[n]? = some c') : ∃ c, M[n]? = some c ∧ ((c.live ∧ c' = .kn c) ∨ (¬ c.live ∧ c' = c)) := by
  rw [List.getElem?_map] at h
  obtain ⟨c, h1, rfl⟩ := Option.map_eq_some_iff.mp h
  refine ⟨c, h1, ?_⟩
  cases c with
  | lst ps => exact .inl ⟨trivial, rfl⟩
  | dct es => exact .inl ⟨trivial, rfl⟩
  | ins C fs => exact .inl ⟨trivial, rfl⟩
  | kn c => exact .inr ⟨fun z => z, rfl⟩
  | lk es => exact .inr ⟨fun z => z, rfl⟩
theorem lentK_out (R : Rel K B env σ Hk H) {L : Addr → Prop} (l : Lkd Hk H H' L) {B' : Fb} {e3 : Sl} {Hk3 : Kn} {H3 H4 : Hp} {r : Res} {v : V} (b1 : B'.H0 = H') (b2 : B'.K0 = ⟨lentKK env σ Hk H H', Hk.P⟩) (b3 : ∀ a, ¬ B'.io a) (R3 : Rel K B' e3 σ Hk3 H3)
    (h4 : ∀ x, ¬ L x → H4 x = H3 x) (h5 : ∀ x, L x → H4 x = H x) (hF : resFlat r = true) (o3 : ResOk K B' e3 σ Hk3 H3 r v) : ∃ Hk' : Kn, Rel K B env σ Hk' H4 ∧ KSame Hk Hk' ∧ ResOk K B env σ Hk' H4 r v := by
  have sH : Same H' H3 := fun a o e => R3.kp a o (by rw [b1]; exact e) (b3 a)
  have s1 : Same Hk.k Hk3.k := (lentKK_same R l).trans (by have := R3.kn; rw [b2] at this; exact this.s)
  have hn : ∀ a, Hk3.k a ≠ none → Hk a = none → H a = none ∨ ∃ o, H3 a = some o ∧ (∀ xs, o ≠ .tup xs) ∧ ∀ u xs, o ≠ .frz u (.tup xs) := fun a h3 hk => by
    by_cases hl : lentKK env σ Hk H H' a = none
    · refine .inl ?_
      have := R3.fr a h3 (by rw [b2]; exact hl)
      rw [b1] at this
      cases q : H a with
      | none => rfl
      | some o => exact absurd this (l.there (ne_none q))
    · obtain ⟨_, o, g1, g2⟩ := lentKK_new R l hl hk
      exact .inr ⟨o, sH _ _ g1, g2⟩
  have nl : ∀ a, H a = none → ¬ L a := fun a e z => by
    obtain ⟨_, _, od, kvs, w, _⟩ := l.at_ a z
    rw [e] at w
    cases w
  have sH4 : Same H H4 := fun a o e => by
    by_cases z : L a
    · rw [h5 a z]; exact e
    · rw [h4 a z]; exact sH _ _ (by rw [l.out a z]; exact e)
  have sk : Same Hk.k (tpK Hk H H3) := fun a o e => by
    unfold tpK
    rw [if_pos (ne_none e)]
    exact e
  have R2 : Rel K B env σ ⟨tpK Hk H H3, Hk.P⟩ H4 := R.grow (Hk' := ⟨tpK Hk H H3, Hk.P⟩) sk (fun a o e => by
    have e : tpK Hk H H3 a = some o := e
    unfold tpK at e
    split at e
    · exact sH4 _ _ (R.ex _ _ e)
    · split at e
      · rename_i hz
        rw [h4 a (nl a hz)]
        split at e
        · rename_i q; rw [q]; exact e
        · rename_i q; rw [q]; exact e
        · cases e
      · cases e) sH4 fun a g1 g2 => by
    have g1 : tpK Hk H H3 a ≠ none := g1
    unfold tpK at g1
    rw [if_neg (fun y => y g2)] at g1
    by_cases z : H a = none
    · exact z
    · rw [if_neg z] at g1
      exact absurd rfl g1
  refine ⟨⟨tpK Hk H H3, Hk.P⟩, R2, ⟨sk, fun _ _ z => z⟩, ?_⟩
  cases r with
  | dat d => exact tpK_dv R3.ex s1 hn o3 hF
  | slt i => cases hF
  | pv p => cases hF
  | new c =>
    obtain ⟨p, rfl, w1, w2, w3, w6, w5⟩ := o3
    rw [b1] at w2
    have w2 : H p = none := by
      cases q : H p with
      | none => rfl
      | some o => exact absurd w2 (l.there (ne_none q))
    have hkp : tpK Hk H H3 p = none := by
      unfold tpK
      rw [if_neg (fun y => y (R.kfree w2)), if_pos w2]
      cases c with
      | lst ds =>
        obtain ⟨vs, q1, _⟩ := w3
        rw [q1]
      | dct ds =>
        obtain ⟨vs, q1, _⟩ := w3
        rw [q1]
    refine ⟨p, rfl, hkp, R.fresh0 w2, ?_, R.pfree w2, fun j s hj hm => R.mutNe w2 hj hm⟩
    cases c with
    | lst ds =>
      obtain ⟨vs, q1, q2⟩ := w3
      exact ⟨vs, by rw [h4 p (nl p w2)]; exact q1, tpK_dvs R3.ex s1 hn q2 hF⟩
    | dct ds =>
      obtain ⟨vs, q1, q2⟩ := w3
      exact ⟨vs, by rw [h4 p (nl p w2)]; exact q1, tpK_kvs R3.ex s1 hn q2 hF⟩
theorem lendK_run {m : ME} {Q : VK} (h : tE K (mLendK none m) σ H Q) : tE K m σ H Q := by
  obtain ⟨B, env, Hk, r, env', R, hm, k⟩ := h
  obtain ⟨M, hM, hm⟩ := Option.bind_eq_some_iff.mp hm
  obtain ⟨l, hl, hm⟩ := Option.bind_eq_some_iff.mp hm
  cases hl
  obtain ⟨M', h1, hm⟩ := Option.bind_eq_some_iff.mp hm
  cases h1
  obtain ⟨⟨r1, e3⟩, h2, hm⟩ := Option.bind_eq_some_iff.mp hm
  by_cases hF : resFlat r1 = true
  · have hm : (if resFlat r1 = true then some (r1, env) else none) = some (r, env') := hm
    rw [if_pos hF] at hm
    cases hm
    have hS := stoOf_has hM
    have eM := hS.sto
    subst eM
    have lk : Lkd Hk H H fun _ => False := ⟨fun _ _ => rfl, fun _ z => z.elim⟩
    obtain ⟨B', b1, b2, b3, R'⟩ := lentK_rel R hS lk (M' := (sto env).map MC.knd) (List.length_map _) fun n c' hc => by
      obtain ⟨c, g1, g2⟩ := knd_of hc
      refine ⟨c, g1, ?_⟩
      rcases g2 with ⟨g2, g3⟩ | g2
      · exact .inl ⟨g2, g3, fun _ _ z => z⟩
      · exact .inr (.inl g2)
    refine ⟨B', _, _, r, e3, R', h2, fun v Hk3 H3 R3 s3 o3 => ?_⟩
    obtain ⟨Hk4, R4, s4, o4⟩ := lentK_out (H4 := H3) R lk b1 b2 b3 R3 (fun _ _ => rfl) (fun _ z => z.elim) hF o3
    exact k v Hk4 H3 R4 s4 o4
  · have hm : (if resFlat r1 = true then some (r1, env) else none) = some (r, env') := hm
    rw [if_neg hF] at hm
    cases hm
theorem ve_lendK {e : Expr} {m : ME} (h : VE X e m) : VE X e (mLendK none m) := h.imp fun _ _ _ => lendK_run
theorem lendKT_run {m : MT} {Q : Bool → Hp → Prop} (h : tT K (mLendKT m) σ H Q) : tT K m σ H Q := by
  obtain ⟨B, env, Hk, b, env', R, hm, k⟩ := h
  obtain ⟨M, hM, hm⟩ := Option.bind_eq_some_iff.mp hm
  obtain ⟨M', h1, hm⟩ := Option.bind_eq_some_iff.mp hm
  cases h1
  obtain ⟨⟨r1, e3⟩, h2, hm⟩ := Option.bind_eq_some_iff.mp hm
  cases hm
  have hS := stoOf_has hM
  have eM := hS.sto
  subst eM
  have lk : Lkd Hk H H fun _ => False := ⟨fun _ _ => rfl, fun _ z => z.elim⟩
  obtain ⟨B', b1, b2, b3, R'⟩ := lentK_rel R hS lk (M' := (sto env).map MC.knd) (List.length_map _) fun n c' hc => by
    obtain ⟨c, g1, g2⟩ := knd_of hc
    refine ⟨c, g1, ?_⟩
    rcases g2 with ⟨g2, g3⟩ | g2
    · exact .inl ⟨g2, g3, fun _ _ z => z⟩
    · exact .inr (.inl g2)
  refine ⟨B', _, _, r1, e3, R', h2, fun Hk3 H3 R3 s3 => ?_⟩
  obtain ⟨Hk4, R4, s4, _⟩ := lentK_out (H4 := H3) (r := .dat .none) (v := .non) R lk b1 b2 b3 R3 (fun _ _ => rfl) (fun _ z => z.elim) rfl .non
  exact k Hk4 H3 R4 s4
theorem vt_lendK {e : Expr} {m : MT} (h : VT X e m) : VT X e (mLendKT m) := h.imp fun _ _ _ => lendKT_run
end
end Cm
namespace Cm
open PySem L2
section
variable {X : Cx} {K : PySem.W.Frag} {B : Fb} {env env' : Sl} {σ : L2.St} {Hk Hk' : Kn} {H H' : Hp}
end
def isDP (M : List MC) : PV → Bool
  | .dat (.dict _) => true
  | .ref n => match M[n]? with
    | some (.dct _) => true
    | some (.kn (.dct _)) => true
    | some (.lk _) => true
    | _ => false
  | _ => false
section
variable {X : Cx} {K : PySem.W.Frag} {B : Fb} {env env' : Sl} {σ : L2.St} {Hk Hk' : Kn} {H H' : Hp}
end
end Cm
namespace Cm
open PySem PySem.Spec PyProof.Rows L2
section
variable {X : Cx} {K : PySem.W.Frag} {B : Fb} {env env' : Sl} {σ : L2.St} {Hk Hk' : Kn} {H H' : Hp}
end
end Cm
namespace Cm
open PySem L2
section
variable {α β γ τ : Type} {a : α → PyData} {b : β → PyData}
end
def mTyE (ok : PyData → Bool) (m : ME) : ME := fun env => (m env).bind fun p => match p.1 with
  | .dat d => if ok d = true then some p else none
  | _ => none
section
variable {X : Cx} {K0 : PySem.W.Frag} {α β γ τ : Type} {env e : Sl} {R : Option β} {m ma mb mo mk mv mz : ME} {ms : MA} {M M' : List MC}
theorem tyEE_run {ok : PyData → Bool} {σ : L2.St} {H : Hp} {Q : VK} (h : tE K0 (mTyE ok m) σ H Q) : tE K0 m σ H Q := by
  obtain ⟨B, env, Hk, res, env', R, hm, k⟩ := h
  obtain ⟨⟨r, e1⟩, h1, hm⟩ := Option.bind_eq_some_iff.mp hm
  cases r with
  | dat d =>
    dsimp only at hm
    split at hm
    · cases hm
      exact ⟨B, env, Hk, _, _, R, h1, k⟩
    · cases hm
  | _ => cases hm
theorem ve_tyE {ok : PyData → Bool} {e : Expr} (h : VE X e m) : VE X e (mTyE ok m) := h.imp fun _ _ _ => tyEE_run
def tyEK (ok : PyData → Bool) (r : Res) (e : Sl) (K : Res → Sl → Option β) : Option β := match r with
  | .dat d => if ok d = true then K r e else none
  | _ => none
theorem c_tyE {ok : PyData → Bool} {K : Res → Sl → Option β} (k : bnd (m env) (fun r e => tyEK ok r e K) = R) : bnd (mTyE ok m env) K = R := by
  rw [← k]; unfold mTyE bnd tyEK
  cases m env with
  | none => rfl
  | some p =>
    cases p with
    | mk r e =>
      cases r with
      | dat d =>
        simp only [Option.bind_some]
        split <;> rfl
      | _ => rfl
theorem c_tyEK {enc : α → PyData} (A : Dec enc) {d : PyData} {K : Res → Sl → Option β} {k : α → Option γ} {h : γ → Option β} (p : ∀ x, K (.dat (enc x)) e = (k x).bind h) : tyEK (fun d => (A.f d).isSome) (.dat d) e K = ((A.f d).bind k).bind h := by
  show (if (A.f d).isSome = true then K (.dat d) e else none) = _
  cases hx : A.f d with
  | none => rfl
  | some x =>
    have := A.snd _ _ hx
    subst this
    exact p x
def datK (r : Res) (e : Sl) (K : Res → Sl → Option β) : Option β := (pvR r).bind fun x => x.asD.bind fun d => K (.dat d) e
theorem c_dat {K : Res → Sl → Option β} (k : bnd (m env) (fun r e => datK r e K) = R) : bnd (mDat m env) K = R := by
  rw [← k]; unfold mDat bnd datK
  cases m env with
  | none => rfl
  | some p =>
    simp only [Option.bind_some]
    cases pvR p.1 with
    | none => rfl
    | some x =>
      simp only [Option.bind_some]
      cases x.asD <;> rfl
theorem c_datK {K : Res → Sl → Option β} {r : Res} {x : PV} {h : γ → Option β} {k : PyData → Option γ} (hr : pvR r = some x) (p : ∀ d, K (.dat d) e = (k d).bind h) : datK r e K = ((PV.asD x).bind k).bind h := by
  unfold datK
  rw [hr, Option.bind_some]
  cases x.asD with
  | none => rfl
  | some z => exact p z
end
structure Lent (M M' : List MC) : Prop where
  fld : ∀ C (x : PV) f, PV.fld C M' x f = PV.fld C M x f
  ix : ∀ (x : PV) i, PV.ix M' x i = PV.ix M x i
  dx : ∀ (x : PV) k, PV.dx M' x k = PV.dx M x k
  dp : ∀ (x : PV), isDP M' x = isDP M x
  deep : ∀ f (x : PV), PV.deepK M' f x = PV.deep M f x
theorem rdAllP_eq {f g : PV → Option PyData} (h : ∀ p, f p = g p) : ∀ ps, rdAllP f ps = rdAllP g ps
  | [] => rfl
  | p :: ps => by
    unfold rdAllP
    rw [h, rdAllP_eq h ps]
theorem rdAllK_eq {f g : PV → Option PyData} (h : ∀ p, f p = g p) : ∀ ps, rdAllK f ps = rdAllK g ps
  | [] => rfl
  | p :: ps => by
    unfold rdAllK
    rw [h, rdAllK_eq h ps]
theorem rdAllK_dats {M : List MC} {f : Nat} : ∀ {es : List (PyData × PV)} {ds : List (PyData × PyData)}, datsK es = some ds → rdAllK (PV.deep M f) es = some ds
  | [], ds, h => by cases h; rfl
  | (k, .dat d) :: es, ds, h => by
    obtain ⟨e, h3, rfl⟩ := Option.map_eq_some_iff.mp h
    unfold rdAllK
    have : PV.deep M f (.dat d) = some d := by cases f <;> rfl
    rw [this, Option.bind_some, rdAllK_dats h3]
    rfl
  | (_, .ref _) :: _, _, h => by cases h
  | (_, .tup _) :: _, _, h => by cases h
theorem dats_dGet {k : Key} : ∀ {es : List (PyData × PV)} {ds : List (PyData × PyData)}, datsK es = some ds → (dGet ds k).map PV.dat = pvGet es k
  | [], ds, h => by cases h; rfl
  | (q, .dat d) :: es, ds, h => by
    obtain ⟨e, h3, rfl⟩ := Option.map_eq_some_iff.mp h
    have := dats_dGet (k := k) h3
    unfold dGet pvGet at *
    rw [List.find?_cons, List.find?_cons]
    by_cases z : keyOf q = some k
    · simp [z]
    · simp only [z, decide_false]
      exact this
  | (_, .ref _) :: _, _, h => by cases h
  | (_, .tup _) :: _, _, h => by cases h
def lentC (c c' : MC) : Prop := c' = c.knd ∨ ∃ es ds, c = .dct es ∧ datsK es = some ds ∧ c' = .lk ds
theorem lent_of {M M' : List MC} (hl : M'.length = M.length) (h : ∀ (n : Nat) c, M[n]? = some c → ∃ c', M'[n]? = some c' ∧ lentC c c') : Lent M M' := by
  have no : ∀ n : Nat, M[n]? = none → M'[n]? = none := fun n e => by
    rw [List.getElem?_eq_none_iff] at *
    omega
  refine ⟨fun C x f => ?_, fun x i => ?_, fun x k => ?_, fun x => ?_, fun f => ?_⟩
  · cases x with
    | ref n =>
      unfold PV.fld
      cases hc : M[n]? with
      | none => simp only [hc, no n hc]
      | some c =>
        obtain ⟨c', e1, e2⟩ := h n c hc
        simp only [hc, e1]
        rcases e2 with rfl | ⟨es, ds, rfl, _, rfl⟩
        · cases c <;> rfl
        · rfl
    | _ => rfl
  · cases x with
    | ref n =>
      unfold PV.ix
      cases hc : M[n]? with
      | none => simp only [hc, no n hc]
      | some c =>
        obtain ⟨c', e1, e2⟩ := h n c hc
        simp only [hc, e1]
        rcases e2 with rfl | ⟨es, ds, rfl, _, rfl⟩
        · cases c <;> rfl
        · rfl
    | dat d => cases d <;> rfl
    | tup _ => rfl
  · cases x with
    | ref n =>
      unfold PV.dx
      cases hc : M[n]? with
      | none => simp only [hc, no n hc]
      | some c =>
        obtain ⟨c', e1, e2⟩ := h n c hc
        simp only [hc, e1]
        rcases e2 with rfl | ⟨es, ds, rfl, hd, rfl⟩
        · cases c <;> rfl
        · exact congrArg some (dats_dGet hd)
    | dat d => cases d <;> rfl
    | tup _ => rfl
  · cases x with
    | ref n =>
      unfold isDP
      cases hc : M[n]? with
      | none => simp only [hc, no n hc]
      | some c =>
        obtain ⟨c', e1, e2⟩ := h n c hc
        simp only [hc, e1]
        rcases e2 with rfl | ⟨es, ds, rfl, hd, rfl⟩
        · cases c with
          | kn c => cases c <;> rfl
          | _ => rfl
        · rfl
    | dat d => cases d <;> rfl
    | tup _ => rfl
  · induction f with
    | zero => intro x; cases x <;> rfl
    | succ f ih =>
      intro x
      cases x with
      | dat d => rfl
      | tup ps =>
        show (rdAllP _ ps).map _ = (rdAllP _ ps).map _
        rw [rdAllP_eq ih]
      | ref n =>
        unfold PV.deepK PV.deep
        cases hc : M[n]? with
        | none => simp only [hc, no n hc]
        | some c =>
          obtain ⟨c', e1, e2⟩ := h n c hc
          simp only [hc, e1]
          rcases e2 with rfl | ⟨es, ds, rfl, hd, rfl⟩
          · cases c with
            | lst ps => exact congrArg (Option.map PyData.list) (rdAllP_eq ih ps)
            | dct es => exact congrArg (Option.map PyData.dict) (rdAllK_eq ih es)
            | ins C fs => rfl
            | lk es => rfl
            | kn c =>
              cases c with
              | lst ps => exact congrArg (Option.map PyData.list) (rdAllP_eq ih ps)
              | dct es => exact congrArg (Option.map PyData.dict) (rdAllK_eq ih es)
              | _ => rfl
          · show some (PyData.dict ds) = (rdAllK (PV.deep M f) es).map PyData.dict
            rw [rdAllK_dats hd]
            rfl
theorem lent_none (M : List MC) : Lent M (M.map MC.knd) := lent_of (List.length_map _) fun n c hc => ⟨c.knd, by rw [List.getElem?_map, hc]; rfl, .inl rfl⟩
section
variable {β γ τ : Type} {env e : Sl} {R : Option β} {m ma mb mo mk mv mz : ME} {M M' : List MC}
def lendFK (env : Sl) (r : Res) (K : Res → Sl → Option β) : Option β := if resFlat r = true then K r env else none
theorem c_lendX {K : Res → Sl → Option β} (hM : env[env.length - 1]? = some (.sto M)) (p : ∀ M', Lent M M' → bnd (m (env.map (lentSlotK M'))) (fun r _ => lendFK env r K) = R) : bnd (mLendK none m env) K = R := by
  rw [← p _ (lent_none M)]
  unfold mLendK bnd stoOf lendFK
  rw [hM]
  show ((m _).bind _).bind _ = _
  cases m (env.map (lentSlotK (M.map MC.knd))) with
  | none => rfl
  | some q =>
    simp only [Option.bind_some]
    split <;> rfl
theorem c_lendX2 {m2 : Sl → Option (τ × Sl)} {KK : τ → Sl → Option β} {e2 : Sl} (h : env.map (lentSlotK M') = e2) (k : bnd (m2 e2) KK = R) : bnd (m2 (env.map (lentSlotK M'))) KK = R := by
  rw [h]; exact k
theorem c_lendF {K : Res → Sl → Option β} {r : Res} (h : resFlat r = true) (k : K r env = R) : lendFK env r K = R := by
  unfold lendFK
  rw [if_pos h]
  exact k
theorem c_lendXT {m : MT} {K : Bool → Sl → Option β} (hM : env[env.length - 1]? = some (.sto M)) (p : ∀ M', Lent M M' → bnd (m (env.map (lentSlotK M'))) (fun r _ => K r env) = R) : bnd (mLendKT m env) K = R := by
  rw [← p _ (lent_none M)]
  unfold mLendKT bnd stoOf
  rw [hM]
  show ((m _).bind _).bind _ = _
  cases m (env.map (lentSlotK (M.map MC.knd))) <;> rfl
def knK (r : Res) (e : Sl) (K : Res → Sl → Option β) : Option β := (pvR r).bind fun x => (x.deepK (sto e) 9).bind fun d => K (.dat d) e
theorem c_kn {K : Res → Sl → Option β} (k : bnd (m env) (fun r e => knK r e K) = R) : bnd (mKn m env) K = R := by
  rw [← k]; unfold mKn bnd knK
  cases m env with
  | none => rfl
  | some p =>
    simp only [Option.bind_some]
    cases pvR p.1 with
    | none => rfl
    | some x =>
      simp only [Option.bind_some]
      cases x.deepK (sto p.2) 9 <;> rfl
theorem c_knL {K : Res → Sl → Option β} {r : Res} {x : PV} {h : γ → Option β} {k : PyData → Option γ} (hl : Lent M M') (hr : pvR r = some x) (hM : sto e = M') (p : ∀ d, K (.dat d) e = (k d).bind h) : knK r e K = ((PV.deep M 9 x).bind k).bind h := by
  rw [← hl.deep]
  subst hM
  unfold knK
  rw [hr, Option.bind_some]
  cases x.deepK (sto e) 9 with
  | none => rfl
  | some z => exact p z
end
end Cm
namespace Cm
open PySem L2
section
variable {X : Cx} {K0 : PySem.W.Frag} {α β γ τ : Type} {env e : Sl} {R : Option β} {m : ME} {M M' : List MC}
end
end Cm
namespace Cm
open PySem L2
def PV.isN : PV → Bool
  | .dat .none => true
  | _ => false
def mIsNP (neg : Bool) (m : ME) : ME := fun env => (m env).bind fun p => (pvR p.1).map fun x => (.dat (.bool (if neg = true then !x.isN else x.isN)), p.2)
section
variable {X : Cx} {K0 : PySem.W.Frag} {α β γ τ : Type} {env e : Sl} {R : Option β} {m : ME} {M M' : List MC}
theorem pisN_v {K : PySem.W.Frag} {Hk : Kn} {v : V} {p : PV} (h : PvOk K Hk v p) : decide (v = .non) = p.isN := by
  cases h with
  | ref _ => exact decide_eq_false fun z => nomatch z
  | tup _ _ => exact decide_eq_false fun z => nomatch z
  | dat q => cases q <;> first | rfl | exact decide_eq_false fun z => nomatch z
theorem isNP_run {m2 : ME} {σ : L2.St} {H : Hp} {Q : VK} (h : tE K0 (mIsNP false m) σ H Q) : tOp (fun x y H Q => y = .non ∧ Q (.bl (decide (x = .non))) H) (tE K0 m) (fun σ H Q => Q .non H) σ H Q := by
  obtain ⟨B, env, Hk, res, env', R, hm, k⟩ := h
  obtain ⟨⟨r, e1⟩, h1, hm⟩ := Option.bind_eq_some_iff.mp hm
  obtain ⟨x, h2, hm⟩ := Option.map_eq_some_iff.mp hm
  cases hm
  refine ⟨B, env, Hk, r, e1, R, h1, fun v Hk1 H1 R1 s1 o1 => ⟨rfl, ?_⟩⟩
  show Q _ H1
  rw [pisN_v (o1.pvR h2)]
  exact k _ Hk1 H1 R1 s1 (.bl _)
def isNK (neg : Bool) (r : Res) (e : Sl) (K : Res → Sl → Option β) : Option β := (pvR r).bind fun x => K (.dat (.bool (if neg = true then !x.isN else x.isN))) e
theorem c_isNP {neg : Bool} {K : Res → Sl → Option β} (k : bnd (m env) (fun r e => isNK neg r e K) = R) : bnd (mIsNP neg m env) K = R := by
  rw [← k]; unfold mIsNP bnd isNK
  cases m env with
  | none => rfl
  | some p =>
    simp only [Option.bind_some]
    cases pvR p.1 <;> rfl
theorem c_isNPK {neg : Bool} {K : Res → Sl → Option β} {r : Res} {x : PV} (hr : pvR r = some x) (k : K (.dat (.bool (if neg = true then !x.isN else x.isN))) e = R) : isNK neg r e K = R := by
  unfold isNK
  rw [hr, Option.bind_some]
  exact k
end
end Cm
namespace Cm
open PySem PySem.Spec PyProof.Rows L2
section
variable {X : Cx} {K : PySem.W.Frag}
end
end Cm
namespace Cm
open PySem L2
inductive PrsAllP (K : PySem.W.Frag) (Hk : Kn) : List (V × V) → List (PyData × PV) → Prop
  | nil : PrsAllP K Hk [] []
  | cons {v w : V} {k : PyData} {d : PV} {ps : List (V × V)} {es : List (PyData × PV)} : Dv K Hk v k → PvOk K Hk w d → PrsAllP K Hk ps es → PrsAllP K Hk ((v, w) :: ps) ((k, d) :: es)
section
variable {X : Cx} {K : PySem.W.Frag} {B : Fb} {env env' : Sl} {σ : L2.St} {Hk Hk' : Kn} {H H' : Hp}
end
end Cm
namespace Cm
open PySem L2
section
variable {α β γ τ : Type} {env e : Sl} {R : Option β} {m mo mk : ME} {M M' : List MC} {l : List (ME × ME)}
theorem c_asgT2 {g1 g2 : MGP} {p1 p2 : PV} {K : Fl → Sl → Option β} (q : (mgpCons g1 (mgpCons g2 mgpNil) [p1, p2] e).bind (fun e => K .nx e) = R) : asgPK (mgpTup (mgpCons g1 (mgpCons g2 mgpNil))) (.pv (.tup [p1, p2])) e K = R := by
  rw [← q]; rfl
end
end Cm
namespace Cm
open PySem PySem.Spec PyProof.Rows L2
section
variable {X : Cx} {K : PySem.W.Frag}
end
section
variable {α β γ : Type} {env e : Sl} {R : Option β} {ms : MA} {K : List PyData → Sl → Option β}
end
end Cm
namespace Cm
open PySem L2
section
variable {X : Cx} {m : ME} {a : Expr}
theorem vt_isNP {j : Nat} {p2 pos : Pos} (h : VE X a m) : VT X (.Compare a [.Is] [.Constant .none j p2] pos) (mTest (mIsNP false m)) := (pt_cmpR op_isN h pe_non (nomark _)).imp fun _ _ _ h => isNP_run (m2 := m) (test_run h)
end
section
variable {X : Cx} {mi : MI} {g : MG} {t : MT} {me : ME} {js : List Nat} {pos : Pos}
end
end Cm
namespace Cm
open PySem PySem.Calls PyProof.Rows L2
open PySem.W (EachIs SortsAt alike sortVals copyHeap sortingHeap keyToks)
def headI : PyData → Int
  | .tuple (.int i :: _) => i
  | _ => 0
structure Heads (ds : List PyData) : Prop where
  hd : ∀ d ∈ ds, ∃ i r, d = .tuple (.int i :: r)
  un : (ds.map headI).Nodup
  self : ∀ d ∈ ds, alike d d = true
  lay : ∀ d ∈ ds, d.canLay0 = true ∧ d.depth ≤ 60
  len : ds.length ≤ 100000
theorem Heads.inj {ds : List PyData} (h : Heads ds) {d d' : PyData} (hd : d ∈ ds) (hd' : d' ∈ ds) (e : headI d = headI d') : d = d' := by
  obtain ⟨i, hi, rfl⟩ := List.getElem_of_mem hd
  obtain ⟨j, hj, rfl⟩ := List.getElem_of_mem hd'
  have hn := h.un
  rw [List.Nodup, List.pairwise_iff_getElem] at hn
  by_cases hij : i = j
  · subst hij; rfl
  · exfalso
    rcases Nat.lt_or_gt_of_ne hij with q | q
    · exact hn i j (by simpa using hi) (by simpa using hj) q (by simpa using e)
    · exact hn j i (by simpa using hj) (by simpa using hi) q (by simpa using e.symm)
section
variable {prog : Program} {w : World} {A : Around} {s : Shared}
end
section
variable {X : Cx} {K : PySem.W.Frag} {B : Fb} {env : Sl} {σ : L2.St} {Hk H : Hp}
end
end Cm
namespace Cm
open PySem L2
section
variable {X : Cx} {K : PySem.W.Frag} {B : Fb} {env env' : Sl} {σ : L2.St} {Hk Hk' : Kn} {H H' : Hp}
end
section
variable {β γ : Type} {mo me : ME} {env e : Sl} {R : Option β} {M : List MC}
end
section
variable {K : PySem.W.Frag}
end
section
variable {X : Cx} {K : PySem.W.Frag} {B : Fb} {env env' : Sl} {σ : L2.St} {Hk Hk' : Kn} {H H' : Hp}
end
section
variable {β γ : Type} {mo me : ME} {env e : Sl} {R : Option β}
end
def mgTyD (ok : PyData → Bool) (g : MG) : MGP := fun p env => match p with
  | .dat d => if ok d = true then g d env else none
  | _ => none
section
variable {X : Cx} {K : PySem.W.Frag} {js : List Nat}
theorem gTyD_run {ok : PyData → Bool} {g : MG} {v : V} {σ : L2.St} {H : Hp} {Q : L2.St → Hp → Prop} (h : tGP K js (mgTyD ok g) v σ H Q) : tGP K js (mgOfD g) v σ H Q := by
  obtain ⟨B, env, Hk, p, env', R, hd, hm, k⟩ := h
  refine ⟨B, env, Hk, p, env', R, hd, ?_, k⟩
  cases p with
  | dat d =>
    have hm : (if ok d = true then g d env else none) = some env' := hm
    split at hm
    · exact hm
    · cases hm
  | _ => cases hm
theorem vg_tyD {e : Expr} {g : MG} {ok : PyData → Bool} (h : VG X e js g) : VGP X e js (mgTyD ok g) := (vg_ofD h).imp fun _ _ _ _ => gTyD_run
end
section
variable {β γ τ : Type} {e : Sl}
end
end Cm
namespace Cm
open PySem L2
section
variable {ρ σ : Type}
variable {b : MS} {E : σ → Sl} {oR : ρ → Res} {eR : ρ → Sl}
end
section
variable {X : Cx} {K : PySem.W.Frag} {ma mb : ME} {a b : Expr} {pos : Pos}
end
section
variable {β α : Type} {ma mb : ME} {env e : Sl} {K : Res → Sl → Option β} {R : Option β}
end
end Cm
namespace Cm
open PySem L2
section
variable {X : Cx} {K : PySem.W.Frag} {m : ME} {ml mh : MO}
end
section
variable {β γ : Type} {m : ME} {ml mh : MO} {env e : Sl} {K : Res → Sl → Option β} {R : Option β}
end
section
variable {β γ τ : Type} {e : Sl}
theorem c_gTyG {F : Sl → Option β} {p : PV} {enc : τ → PyData} (A : Dec enc) {g : MG} {k : τ → Option γ} {h : γ → Option β} (q : ∀ x, (g (enc x) e).bind F = (k x).bind h) : (mgTyD (fun d => (A.f d).isSome) g p e).bind F = (((PV.asD p).bind A.f).bind k).bind h := by
  cases p with
  | dat d =>
    show (if (A.f d).isSome = true then g d e else none).bind F = ((A.f d).bind k).bind h
    cases hx : A.f d with
    | none => rfl
    | some x =>
      have := A.snd _ _ hx
      subst this
      exact q x
  | _ => rfl
end
section
variable {β γ σ τ : Type} {g : MGP} {t : MT} {me : ME} {vs : List Nat} {e : Sl} {E : σ → Sl}
end
section
variable {X : Cx} {mi : MI} {g : MG} {t : MT} {me : ME} {js : List Nat} {pos : Pos}
end
end Cm
namespace Cm
open PySem L2
section
variable {X : Cx} {K : PySem.W.Frag} {σ : L2.St} {H : Hp} {R : It → Hp → Prop} {ms : MA}
end
section
variable {ms : MA} {env e : Sl} {β γ : Type} {R : Option β}
end
def mgPL (mo mk : ME) : MGP := fun p env => (mo env).bind fun o => (mk o.2).bind fun k => (pvR o.1).bind fun po => match k.1 with
  | .dat (.int i) => (setLP (sto k.2) po i p).map fun M => stoPut k.2 M
  | _ => none
section
variable {X : Cx} {K : PySem.W.Frag} {σ : L2.St} {H : Hp}
theorem gPL_run {mo mk : ME} {v : V} {Q : L2.St → Hp → Prop} (h : tGP K [] (mgPL mo mk) v σ H Q) : gSub (tE K mo) (tE K mk) L2.rSetL v σ H Q := by
  obtain ⟨B, env, Hk, p, env', R, hd, hm, k⟩ := h
  obtain ⟨⟨o, e1⟩, h1, hm⟩ := Option.bind_eq_some_iff.mp hm
  obtain ⟨⟨q, e2⟩, h2, hm⟩ := Option.bind_eq_some_iff.mp hm
  obtain ⟨po, h3, hm⟩ := Option.bind_eq_some_iff.mp hm
  cases q with
  | dat d =>
    cases d with
    | int ki =>
      obtain ⟨M, h6, hm⟩ := Option.map_eq_some_iff.mp hm
      cases hm
      refine ⟨B, env, Hk, o, e1, R, h1, fun u Hk1 H1 R1 s1 o1 => ?_⟩
      refine ⟨B, e1, Hk1, _, e2, R1, h2, fun w Hk2 H2 R2 s2 o2 => ?_⟩
      cases o2
      cases po with
      | ref n =>
        unfold setLP at h6
        cases hc : (sto e2)[n]? with
        | none => simp only [hc] at h6; cases h6
        | some c =>
          cases c with
          | lst ps =>
            simp only [hc] at h6
            obtain ⟨j, h7, rfl⟩ := Option.map_eq_some_iff.mp h6
            obtain ⟨a, vs, rfl, g1, g2, g3⟩ := R2.lstP ((o1.pvR h3).mono s2) hc
            refine ⟨a, vs, ki, j, rfl, rfl, g2, by rw [g3.len]; exact h7, ?_⟩
            exact k σ Hk2 _ (R2.putL hc g1 (g3.set (hd.mono (s1.trans s2)) j)) (s1.trans s2) (fun _ _ => rfl) rfl
          | _ => simp only [hc] at h6; cases h6
      | _ => cases h6
    | _ => cases hm
  | _ => cases hm
theorem vgP_putL {o ix : Expr} {mo mk : ME} {pos : Pos} (ho : VE X o mo) (hi : VE X ix mk)
    (ha : ∀ v, assign (.Subscript o ix pos) X.env v = (do
      let ov ← holding [v] (eval o X.env)
      let iv ← holding [v, ov] (eval ix X.env)
      standAt pos
      holding [v, ov, iv] (setItem ov iv v)
      release [v, ov, iv] []) := by intro _; rfl) : VGP X (.Subscript o ix pos) [] (mgPL mo mk) := (pg_sub ho hi set_list ha).imp fun _ _ _ _ => gPL_run
end
section
variable {env e : Sl} {β γ : Type} {R : Option β}
def gPLK (p : PV) (ro rk : Res) (e : Sl) (F : Sl → Option β) : Option β := (pvR ro).bind fun po => match rk with
  | .dat (.int i) => (setLP (sto e) po i p).bind fun M => F (stoPut e M)
  | _ => none
theorem c_gPL {mo mk : ME} {p : PV} {F : Sl → Option β} (k : bnd (mo env) (fun ro e => bnd (mk e) (fun rk e => gPLK p ro rk e F)) = R) : (mgPL mo mk p env).bind F = R := by
  rw [← k]; unfold mgPL bnd gPLK
  cases mo env with
  | none => rfl
  | some o =>
    simp only [Option.bind_some]
    cases mk o.2 with
    | none => rfl
    | some q =>
      simp only [Option.bind_some]
      cases pvR o.1 with
      | none => rfl
      | some po =>
        simp only [Option.bind_some]
        cases q with
        | mk r e2 =>
          cases r with
          | dat d =>
            cases d with
            | int i => dsimp only; cases setLP (sto e2) po i p <;> rfl
            | _ => rfl
          | _ => rfl
theorem c_gPLK {p po : PV} {i : Int} {ro : Res} {F : Sl → Option β} {h : γ → Option β} {k : List MC → Option γ} (E : List MC → Sl) (hr : pvR ro = some po) (hM : sto e = M) (hE : ∀ M', stoPut e M' = E M') (q : ∀ M', F (E M') = (k M').bind h) :
    gPLK p ro (.dat (.int i)) e F = ((setLP M po i p).bind k).bind h := by
  subst hM
  unfold gPLK
  rw [hr, Option.bind_some]
  show ((setLP (sto e) po i p).bind fun M => F (stoPut e M)) = _
  cases setLP (sto e) po i p with
  | none => rfl
  | some z =>
    show F (stoPut e z) = (k z).bind h
    rw [hE, q]
end
end Cm
set_option synthInstance.maxSize 10000
set_option synthInstance.maxHeartbeats 400000
local macro_rules | `(tactic| walk_at "fl") => `(tactic| first | rfl | (simp [Cm.flatR, Cm.flatS, Cm.flatD]; done) | (simp only [Cm.flatR, Cm.flatS, List.all_cons, List.all_nil, Bool.and_true]; exact Cm.flat_eO fun _ => rfl))
local macro_rules | `(tactic| walk_at "ik") => `(tactic| first | rfl | (simp [Cm.ioKept]; done))
open Lean in
local macro_rules
  | `(tactic| walk_at $s:str) => do
    let v := s.getString
    unless v.startsWith "~" do Macro.throwUnsupported
    let r ← `(rfl)
    let mut ts : Array (TSyntax `tactic) := #[]
    for w in (v.drop 1).toString.splitOn " " do
      let p := w.splitOn ":"
      let f := mkIdent (Name.mkSimple ("c_" ++ p.head!))
      let n := (p.getD 1 "0").toNat!
      let as : TSyntaxArray `term := (List.replicate n r).toArray
      ts := ts.push (← `(tactic| refine $f $as* ?_))
    `(tactic| ($[$ts:tactic];*))
/-! ### the text by places: law_k02_measure_texts_spoilt -/
namespace Lw
open PySem L2 Cm
def topS (i : Nat) : Stmt := PySem.Challenge.pw_campcarry_k02_measure_texts_spoilt.main.body.getD i (.Pass ⟨0, 0, 0, 0⟩)
abbrev s_w_folded : Stmt := topS 13
theorem sc_w_folded : FnScope ["_law_script", "_law_size", "_law_cells", "_law_k", "_law_cell"] ["_law_script", "_law_size"] (defScope s_w_folded) := ⟨rfl, rfl, rfl, by decide +kernel, rfl, by decide +kernel, by decide +kernel⟩
abbrev s_w_box : Stmt := topS 11
theorem sc_w_box : FnScope ["_law_script", "_law_k", "_law_cell"] ["_law_script", "_law_k"] (defScope s_w_box) := ⟨rfl, rfl, rfl, by decide +kernel, rfl, by decide +kernel, by decide +kernel⟩
abbrev s_w_take : Stmt := topS 12
theorem sc_w_take : FnScope ["_law_box_here", "_law_many", "_law_step", "_law_once", "_law_twice", "_law_found"] ["_law_box_here", "_law_many"] (defScope s_w_take) := ⟨rfl, rfl, rfl, by decide +kernel, rfl, by decide +kernel, by decide +kernel⟩
abbrev s_w_wide : Stmt := topS 14
theorem sc_w_wide : FnScope ["_law_box_here", "_law_many", "_law_found", "_law_turn"] ["_law_box_here", "_law_many"] (defScope s_w_wide) := ⟨rfl, rfl, rfl, by decide +kernel, rfl, by decide +kernel, by decide +kernel⟩
abbrev s_w_word : Stmt := topS 18
theorem sc_w_word : FnScope ["_law_box_here", "_law_units", "_law_letters", "_law_found", "_law_place", "_law_letter", "_law_most", "_law_many"] ["_law_box_here", "_law_units", "_law_letters"] (defScope s_w_word) := ⟨rfl, rfl, rfl, by decide +kernel, rfl, by decide +kernel, by decide +kernel⟩
abbrev s_w_parts : Stmt := topS 16
theorem sc_w_parts : FnScope ["_law_text", "_law_parts_here", "_law_figures", "_law_sign", "@"] ["_law_text"] (defScope s_w_parts) := ⟨rfl, rfl, rfl, by decide +kernel, rfl, by decide +kernel, by decide +kernel⟩
abbrev s_w_spoilt : Stmt := topS 19
theorem sc_w_spoilt : FnScope ["_law_box_here", "_law_text", "_law_signs", "_law_way", "_law_at", "_law_sign", "_law_parts_here", "_law_place", "_law_figures", "_law_letter", "_law_some", "_law_one", "_law_other", "@"] ["_law_box_here", "_law_text"] (defScope s_w_spoilt) := ⟨rfl, rfl, rfl, by decide +kernel, rfl, by decide +kernel, by decide +kernel⟩
abbrev s_w_read : Stmt := topS 17
theorem sc_w_read : FnScope ["_law_text", "_law_units", "_law_letters", "_law_parts_here", "_law_found", "_law_last", "_law_most", "_law_figures", "_law_letter", "_law_place", "@"] ["_law_text", "_law_units", "_law_letters"] (defScope s_w_read) := ⟨rfl, rfl, rfl, by decide +kernel, rfl, by decide +kernel, by decide +kernel⟩
abbrev s_plain_number : Stmt := topS 5
theorem sc_plain_number : FnScope ["text", "sign"] ["text"] (defScope s_plain_number) := ⟨rfl, rfl, rfl, by decide +kernel, rfl, by decide +kernel, by decide +kernel⟩
abbrev s_units_text : Stmt := topS 6
theorem sc_units_text : FnScope ["number", "units", "found", "left", "letter", "worth"] ["number", "units"] (defScope s_units_text) := ⟨rfl, rfl, rfl, by decide +kernel, rfl, by decide +kernel, by decide +kernel⟩
abbrev s_units_in : Stmt := topS 7
theorem sc_units_in : FnScope ["text", "units", "found", "rest", "letter", "worth", "head", "mark", "tail", "many"] ["text", "units"] (defScope s_units_in) := ⟨rfl, rfl, rfl, by decide +kernel, rfl, by decide +kernel, by decide +kernel⟩
abbrev s_weight_in : Stmt := topS 8
theorem sc_weight_in : FnScope ["text"] ["text"] (defScope s_weight_in) := ⟨rfl, rfl, rfl, by decide +kernel, rfl, by decide +kernel, by decide +kernel⟩
abbrev s_length_in : Stmt := topS 9
theorem sc_length_in : FnScope ["text"] ["text"] (defScope s_length_in) := ⟨rfl, rfl, rfl, by decide +kernel, rfl, by decide +kernel, by decide +kernel⟩
abbrev s_w_same : Stmt := topS 15
theorem sc_w_same : FnScope ["_law_found", "_law_due", "_law_one", "_law_other"] ["_law_found", "_law_due"] (defScope s_w_same) := ⟨rfl, rfl, rfl, by decide +kernel, rfl, by decide +kernel, by decide +kernel⟩
abbrev s_law : Stmt := topS 20
theorem sc_law : FnScope ["_law_script", "_law_some", "_law_cells", "_law_k", "_law_text", "_law_box_here", "_law_turn", "_law_due", "_law_bent"] ["_law_script"] (defScope s_law) := ⟨rfl, rfl, rfl, by decide +kernel, rfl, by decide +kernel, by decide +kernel⟩
abbrev FnP (K : PySem.W.Frag) (x : Str) (st : Stmt) (f : Addr) (fd : FuncData) : Prop := FunD K x x (defArgs st) (defBody st) (defScope st) [] [] f fd
def c_FIGURES : PyData := .str "0123456789"
def c_LENGTH_UNITS : PyData := .tuple [.tuple [.str "m", .int 320], .tuple [.str "f", .int 40], .tuple [.str "r", .int 1]]
def v_LENGTH_UNITS : (List (Str × Int)) := [("m", 320), ("f", 40), ("r", 1)]
def c_MOST_FIGURES : PyData := .int 9
def c_WEIGHT_UNITS : PyData := .tuple [.tuple [.str "c", .int 112], .tuple [.str "s", .int 14], .tuple [.str "p", .int 1]]
def v_WEIGHT_UNITS : (List (Str × Int)) := [("c", 112), ("s", 14), ("p", 1)]
structure Tx (w : World) (K : PySem.W.Frag) (mg : Str → Option Value) (fd : Nat → FuncData) : Prop where
  F_w_folded : FnP K "_law_folded" s_w_folded (He.ga K "_law_folded") (fd 0)
  g_w_folded : mg "_law_folded" = some (.ref (He.ga K "_law_folded"))
  F_w_box : FnP K "_law_box" s_w_box (He.ga K "_law_box") (fd 1)
  g_w_box : mg "_law_box" = some (.ref (He.ga K "_law_box"))
  F_w_take : FnP K "_law_take" s_w_take (He.ga K "_law_take") (fd 2)
  g_w_take : mg "_law_take" = some (.ref (He.ga K "_law_take"))
  F_w_wide : FnP K "_law_wide" s_w_wide (He.ga K "_law_wide") (fd 3)
  g_w_wide : mg "_law_wide" = some (.ref (He.ga K "_law_wide"))
  F_w_word : FnP K "_law_word" s_w_word (He.ga K "_law_word") (fd 4)
  g_w_word : mg "_law_word" = some (.ref (He.ga K "_law_word"))
  F_w_parts : FnP K "_law_parts" s_w_parts (He.ga K "_law_parts") (fd 5)
  g_w_parts : mg "_law_parts" = some (.ref (He.ga K "_law_parts"))
  F_w_spoilt : FnP K "_law_spoilt" s_w_spoilt (He.ga K "_law_spoilt") (fd 6)
  g_w_spoilt : mg "_law_spoilt" = some (.ref (He.ga K "_law_spoilt"))
  F_w_read : FnP K "_law_read" s_w_read (He.ga K "_law_read") (fd 7)
  g_w_read : mg "_law_read" = some (.ref (He.ga K "_law_read"))
  F_plain_number : FnP K "plain_number" s_plain_number (He.ga K "plain_number") (fd 8)
  g_plain_number : mg "plain_number" = some (.ref (He.ga K "plain_number"))
  F_units_text : FnP K "units_text" s_units_text (He.ga K "units_text") (fd 9)
  g_units_text : mg "units_text" = some (.ref (He.ga K "units_text"))
  F_units_in : FnP K "units_in" s_units_in (He.ga K "units_in") (fd 10)
  g_units_in : mg "units_in" = some (.ref (He.ga K "units_in"))
  F_weight_in : FnP K "weight_in" s_weight_in (He.ga K "weight_in") (fd 11)
  g_weight_in : mg "weight_in" = some (.ref (He.ga K "weight_in"))
  F_length_in : FnP K "length_in" s_length_in (He.ga K "length_in") (fd 12)
  g_length_in : mg "length_in" = some (.ref (He.ga K "length_in"))
  F_w_same : FnP K "_law_same" s_w_same (He.ga K "_law_same") (fd 13)
  g_w_same : mg "_law_same" = some (.ref (He.ga K "_law_same"))
  F_law : FnP K "law" s_law (He.ga K "law") (fd 14)
  g_law : mg "law" = some (.ref (He.ga K "law"))
  b_abs : mg "abs" = none
  b_all : mg "all" = none
  b_bool : mg "bool" = none
  b_enumerate : mg "enumerate" = none
  b_int : mg "int" = none
  b_isinstance : mg "isinstance" = none
  b_len : mg "len" = none
  b_list : mg "list" = none
  b_max : mg "max" = none
  b_range : mg "range" = none
  b_str : mg "str" = none
  b_tuple : mg "tuple" = none
  b_zip : mg "zip" = none
  k_FIGURES : ∃ t, mg "FIGURES" = some (.str "0123456789" t)
  k_LENGTH_UNITS : mg "LENGTH_UNITS" = some (.ref (He.ga K "LENGTH_UNITS")) ∧ ∀ H, Dv K H (.ref (He.ga K "LENGTH_UNITS")) c_LENGTH_UNITS
  k_MOST_FIGURES : ∃ t, mg "MOST_FIGURES" = some (.int 9 t)
  k_WEIGHT_UNITS : mg "WEIGHT_UNITS" = some (.ref (He.ga K "WEIGHT_UNITS")) ∧ ∀ H, Dv K H (.ref (He.ga K "WEIGHT_UNITS")) c_WEIGHT_UNITS
end Lw
namespace Lw
open PySem PySem.Spec PyProof.Rows L2 Cm
def d_w_folded : He.DefD := ⟨("_law_folded", none), "_law_folded", "_law_folded", defArgs s_w_folded, defBody s_w_folded, defScope s_w_folded, [], []⟩
def d_w_box : He.DefD := ⟨("_law_box", none), "_law_box", "_law_box", defArgs s_w_box, defBody s_w_box, defScope s_w_box, [], []⟩
def d_w_take : He.DefD := ⟨("_law_take", none), "_law_take", "_law_take", defArgs s_w_take, defBody s_w_take, defScope s_w_take, [], []⟩
def d_w_wide : He.DefD := ⟨("_law_wide", none), "_law_wide", "_law_wide", defArgs s_w_wide, defBody s_w_wide, defScope s_w_wide, [], []⟩
def d_w_word : He.DefD := ⟨("_law_word", none), "_law_word", "_law_word", defArgs s_w_word, defBody s_w_word, defScope s_w_word, [], []⟩
def d_w_parts : He.DefD := ⟨("_law_parts", none), "_law_parts", "_law_parts", defArgs s_w_parts, defBody s_w_parts, defScope s_w_parts, [], []⟩
def d_w_spoilt : He.DefD := ⟨("_law_spoilt", none), "_law_spoilt", "_law_spoilt", defArgs s_w_spoilt, defBody s_w_spoilt, defScope s_w_spoilt, [], []⟩
def d_w_read : He.DefD := ⟨("_law_read", none), "_law_read", "_law_read", defArgs s_w_read, defBody s_w_read, defScope s_w_read, [], []⟩
def d_plain_number : He.DefD := ⟨("plain_number", none), "plain_number", "plain_number", defArgs s_plain_number, defBody s_plain_number, defScope s_plain_number, [], []⟩
def d_units_text : He.DefD := ⟨("units_text", none), "units_text", "units_text", defArgs s_units_text, defBody s_units_text, defScope s_units_text, [], []⟩
def d_units_in : He.DefD := ⟨("units_in", none), "units_in", "units_in", defArgs s_units_in, defBody s_units_in, defScope s_units_in, [], []⟩
def d_weight_in : He.DefD := ⟨("weight_in", none), "weight_in", "weight_in", defArgs s_weight_in, defBody s_weight_in, defScope s_weight_in, [], []⟩
def d_length_in : He.DefD := ⟨("length_in", none), "length_in", "length_in", defArgs s_length_in, defBody s_length_in, defScope s_length_in, [], []⟩
def d_w_same : He.DefD := ⟨("_law_same", none), "_law_same", "_law_same", defArgs s_w_same, defBody s_w_same, defScope s_w_same, [], []⟩
def d_law : He.DefD := ⟨("law", none), "law", "law", defArgs s_law, defBody s_law, defScope s_law, [], []⟩
def fn : List He.DefD := [d_w_folded, d_w_box, d_w_take, d_w_wide, d_w_word, d_w_parts, d_w_spoilt, d_w_read, d_plain_number, d_units_text, d_units_in, d_weight_in, d_length_in, d_w_same, d_law]
def fa : List He.Fa := [.glo "_law_folded", .glo "_law_box", .glo "_law_take", .glo "_law_wide", .glo "_law_word", .glo "_law_parts", .glo "_law_spoilt", .glo "_law_read", .glo "plain_number", .glo "units_text", .glo "units_in", .glo "weight_in", .glo "length_in", .glo "_law_same", .glo "law", .free "abs", .free "all", .free "bool", .free "enumerate", .free "int", .free "isinstance", .free "len", .free "list", .free "max", .free "range", .free "str", .free "tuple", .free "zip", .str "FIGURES" "0123456789", .glo "LENGTH_UNITS", .int "MOST_FIGURES" 9, .glo "WEIGHT_UNITS"]
abbrev R : PySem.W.OpenRow := PySem.W.OpenLaw.row PySem.Challenge.rw_campcarry_k02_measure_texts_spoilt
def dsC : List (Str × PyData) := [("LENGTH_UNITS", c_LENGTH_UNITS), ("WEIGHT_UNITS", c_WEIGHT_UNITS)]
def kdC : List (Str × List (Str × PyData)) := []
abbrev hk : PySem.W.Hook := Cm.hookX 4 fa fn dsC kdC
def ob (s : PySem.W.SharedT) : Cm.AlX := Cm.obsXG 4 fa fn dsC kdC (HandSHeadRun.getT s)
theorem ob_eq (s : PySem.W.SharedT) : ob s = hk.obs s.abs := Cm.obsXG_eq (HandSHeadRun.getT_eq s)
set_option maxHeartbeats 0 in
theorem runK (b : Bool) (w : World) : HandSHeadRun.RunEq R (PySem.W.view R.prog [20]) hk ob 3000 ["FIGURES", "MOST_FIGURES", "WEIGHT_UNITS", "LENGTH_UNITS", "plain_number", "units_text", "units_in", "weight_in", "length_in", "_law_box", "_law_take", "_law_folded", "_law_wide", "_law_same", "_law_parts", "_law_read", "_law_word", "_law_spoilt"] (Cm.fixW b w) := by
  intro os
  cases b
  · kernel_rfl
  · kernel_rfl
theorem run (w : World) : HandSHeadRun.RunEq R (PySem.W.view R.prog [20]) hk ob 3000 ["FIGURES", "MOST_FIGURES", "WEIGHT_UNITS", "LENGTH_UNITS", "plain_number", "units_text", "units_in", "weight_in", "length_in", "_law_box", "_law_take", "_law_folded", "_law_wide", "_law_same", "_law_parts", "_law_read", "_law_word", "_law_spoilt"] w := by
  have h := runK (w.params.followText "special-get-raises") w
  rw [Cm.fixW_eq] at h
  exact h
end Lw
namespace Lw
open PySem L2 Cm
noncomputable section
variable {P : Program} {w : World} {K : PySem.W.Frag} {mg : Str → Option Value} {base : Heap} {fd : Nat → FuncData}
theorem ve_c_FIGURES {X : Cx} {pos : Pos} (T : Tx X.w X.K X.mg fd) (hg : Gl X "FIGURES" := by rfl) : VE X (.Name "FIGURES" pos) (mC c_FIGURES) := let ⟨t, h⟩ := T.k_FIGURES; ve_glob hg h (show RelV (.str "0123456789") _ from ⟨t, rfl⟩) (fun _ => .str _)
theorem ve_c_LENGTH_UNITS {X : Cx} {pos : Pos} (T : Tx X.w X.K X.mg fd) (hg : Gl X "LENGTH_UNITS" := by rfl) : VE X (.Name "LENGTH_UNITS" pos) (mC c_LENGTH_UNITS) := ve_glob (v := .ref (He.ga X.K "LENGTH_UNITS")) hg T.k_LENGTH_UNITS.1 rfl T.k_LENGTH_UNITS.2
theorem ve_c_MOST_FIGURES {X : Cx} {pos : Pos} (T : Tx X.w X.K X.mg fd) (hg : Gl X "MOST_FIGURES" := by rfl) : VE X (.Name "MOST_FIGURES" pos) (mC c_MOST_FIGURES) := let ⟨t, h⟩ := T.k_MOST_FIGURES; ve_glob hg h (show RelV (.int 9) _ from ⟨t, rfl⟩) (fun _ => .int _)
theorem ve_c_WEIGHT_UNITS {X : Cx} {pos : Pos} (T : Tx X.w X.K X.mg fd) (hg : Gl X "WEIGHT_UNITS" := by rfl) : VE X (.Name "WEIGHT_UNITS" pos) (mC c_WEIGHT_UNITS) := ve_glob (v := .ref (He.ga X.K "WEIGHT_UNITS")) hg T.k_WEIGHT_UNITS.1 rfl T.k_WEIGHT_UNITS.2
theorem bi_w_folded (T : Tx w K mg fd) : Binds K (fd 0) ["_law_script", "_law_size"] [] := T.F_w_folded.bindsN fun _ _ _ _ _ _ us hl => match us, hl with | [_, _], _ => rfl
theorem bi_w_box (T : Tx w K mg fd) : Binds K (fd 1) ["_law_script", "_law_k"] [] := T.F_w_box.bindsN fun _ _ _ _ _ _ us hl => match us, hl with | [_, _], _ => rfl
theorem bi_w_take (T : Tx w K mg fd) : Binds K (fd 2) ["_law_box_here", "_law_many"] [] := T.F_w_take.bindsN fun _ _ _ _ _ _ us hl => match us, hl with | [_, _], _ => rfl
theorem bi_w_wide (T : Tx w K mg fd) : Binds K (fd 3) ["_law_box_here", "_law_many"] [] := T.F_w_wide.bindsN fun _ _ _ _ _ _ us hl => match us, hl with | [_, _], _ => rfl
theorem bi_w_word (T : Tx w K mg fd) : Binds K (fd 4) ["_law_box_here", "_law_units", "_law_letters"] [] := T.F_w_word.bindsN fun _ _ _ _ _ _ us hl => match us, hl with | [_, _, _], _ => rfl
theorem bi_w_parts (T : Tx w K mg fd) : Binds K (fd 5) ["_law_text"] [] := T.F_w_parts.bindsN fun _ _ _ _ _ _ us hl => match us, hl with | [_], _ => rfl
theorem bi_w_spoilt (T : Tx w K mg fd) : Binds K (fd 6) ["_law_box_here", "_law_text"] [] := T.F_w_spoilt.bindsN fun _ _ _ _ _ _ us hl => match us, hl with | [_, _], _ => rfl
theorem bi_w_read (T : Tx w K mg fd) : Binds K (fd 7) ["_law_text", "_law_units", "_law_letters"] [] := T.F_w_read.bindsN fun _ _ _ _ _ _ us hl => match us, hl with | [_, _, _], _ => rfl
theorem bi_plain_number (T : Tx w K mg fd) : Binds K (fd 8) ["text"] [] := T.F_plain_number.bindsN fun _ _ _ _ _ _ us hl => match us, hl with | [_], _ => rfl
theorem bi_units_text (T : Tx w K mg fd) : Binds K (fd 9) ["number", "units"] [] := T.F_units_text.bindsN fun _ _ _ _ _ _ us hl => match us, hl with | [_, _], _ => rfl
theorem bi_units_in (T : Tx w K mg fd) : Binds K (fd 10) ["text", "units"] [] := T.F_units_in.bindsN fun _ _ _ _ _ _ us hl => match us, hl with | [_, _], _ => rfl
theorem bi_weight_in (T : Tx w K mg fd) : Binds K (fd 11) ["text"] [] := T.F_weight_in.bindsN fun _ _ _ _ _ _ us hl => match us, hl with | [_], _ => rfl
theorem bi_length_in (T : Tx w K mg fd) : Binds K (fd 12) ["text"] [] := T.F_length_in.bindsN fun _ _ _ _ _ _ us hl => match us, hl with | [_], _ => rfl
theorem bi_w_same (T : Tx w K mg fd) : Binds K (fd 13) ["_law_found", "_law_due"] [] := T.F_w_same.bindsN fun _ _ _ _ _ _ us hl => match us, hl with | [_, _], _ => rfl
theorem bi_law (T : Tx w K mg fd) : Binds K (fd 14) ["_law_script"] [] := T.F_law.bindsN fun _ _ _ _ _ _ us hl => match us, hl with | [_], _ => rfl
def m_w_folded_b1 : MS := (mAft [3, 4] (mAsg (mOp gAdd (mOp gIx (mName 2) (mOp gMod (mName 3) (mName 1))) (mOp gMul (mName 4) (mOp gAdd (mName 3) (mC (.int 2))))) (mgSub 2 (mOp gMod (mName 3) (mName 1)))))
def P_w_folded_b2 (size : Int) (xx : (Int × Int)) (ss : (List Int)) : Option (List Int) :=
  (pMod xx.1 size).bind fun t2 =>
  (pIx ss t2).bind fun t3 =>
  (pMul xx.2 (xx.1 + 2)).bind fun t4 =>
  (pMod xx.1 size).bind fun t5 =>
  (pSet ss t5 (t3 + t4)).bind fun cells6 =>
  some cells6
theorem s_w_folded_b2 (o0 : Slot) (size : Int) (xx : (Int × Int)) (ss : (List Int)) : ((mgTup (mgCons (mgName 3) (mgCons (mgName 4) mgNil))) ((eT2 eI eI) xx) [o0, .val (eI size), .own (.lst (ss.map eI)), .no, .no]).bind m_w_folded_b1 = (P_w_folded_b2 size xx ss).map (outN (fun ss : (List Int) => [o0, .val (eI size), .own (.lst (ss.map eI)), .no, .no])) := c_body (by
  unfold P_w_folded_b2 m_w_folded_b1
  walk_at "~gtup gcons"
  refine c_gname (e2 := [o0, .val (eI size), .own (.lst (ss.map eI)), .val (eI xx.1), .no]) rfl ?_
  walk_at "~gcons"
  refine c_gname (e2 := [o0, .val (eI size), .own (.lst (ss.map eI)), .val (eI xx.1), .val (eI xx.2)]) rfl ?_
  walk_at "~gnil aft asg op op nameO:1 op nameV:1 nameV:1 opK:2"
  refine c_cal x_mod fun t2 => ?_
  walk_at "~opK:2"
  refine c_cal (x_ix (e := eI) (l := ss)) fun t3 => ?_
  walk_at "~op nameV:1 op nameV:1 c opK:2"
  refine c_pur x_add ?_
  walk_at "~opK:2"
  refine c_cal x_mul fun t4 => ?_
  walk_at "~opK:2"
  refine c_pur x_add ?_
  walk_at "~frzD asgK gsub:1 op nameV:1 nameV:1 opK:2"
  refine c_cal x_mod fun t5 => ?_
  refine c_gsubP eI ss (t3 + t4) (fun cells6 => [o0, .val (eI size), .own (.lst (cells6.map eI)), .val (eI xx.1), .val (eI xx.2)]) rfl (fun _ => rfl) fun cells6 => ?_
  refine c_aftN (e2 := [o0, .val (eI size), .own (.lst (cells6.map eI)), .no, .no]) rfl ?_
  exact rfl)
def m_w_folded : MS := (mSeq (mSet 2 (mCB gList (mCons (mSlScr 0 mNoPart (mPart (mName 1))) mNil)))
    (mSeq (mBef [3, 4] (mFor (mEnum (mCons (mFrz (mSlScr 0 (mPart (mName 1)) (mPart (mC (.int 63))))) mNil)) (mgTup (mgCons (mgName 3) (mgCons (mgName 4) mgNil))) m_w_folded_b1))
    (mRetW [0, 1, 2, 3, 4] (mName 2))))
def fm_w_folded : FM := fmOf 2 5 m_w_folded
theorem ok_w_folded (T : Tx w K mg fd) : FnOk P w K mg base CX0 1 (He.ga K "_law_folded") (fd 0) ["_law_script", "_law_size"] (spF K fm_w_folded) :=
  fn_ok T.F_w_folded sc_w_folded fun cdv A outer s H E hr => (show VSs _ _ m_w_folded from (vs_cons (vs_set (i := 2) sc_w_folded.nd (ve_callTy call_list_of cd_list (by rfl) T.b_list (by decide +kernel) (va_cons (ve_sliceScr 0 vo_none (vo_some (ve_name 1))) va_nil)))
      (vs_cons (vs_bef (ws := [3, 4]) (vs_for PassesOwn.never (vi_enum T.b_enumerate (va_cons (ve_frz (ve_sliceScr 0 (vo_some (ve_name 1)) (vo_some ve_int))) va_nil)) (vg_tup (vgs_cons (vg_name (j := 3) sc_w_folded.nd) (vgs_cons (vg_name (j := 4) sc_w_folded.nd) vgs_nil)) (mgcons_len (mgcons_len mgnil_len))) (vs_aft (ws := [3, 4]) (vs_one (vs_asg (ve_op or_add od_add (ve_ix ix_seq od_ix (ve_name 2) (ve_op op_mod od_mod (ve_name 3) (ve_name 1)) (fun _ _ => rfl)) (ve_op or_mul od_mul (ve_name 4) (ve_op or_add od_add (ve_name 3) ve_int))) (vg_sub (i := 2) (ve_op op_mod od_mod (ve_name 3) (ve_name 1))))))))
      (vs_one (vs_retW (ve_name 2))))))
def P_w_folded (script : List Int) (size : Int) : Option (List Int) :=
  (some (cutL script none (some size))).bind fun cells1 =>
  (forP (P_w_folded_b2 size) (enumI 0 (cutL script (some size) (some 63))) cells1).bind fun s7 =>
  some s7
theorem q_w_folded (script : List Int) (size : Int) : fm_w_folded [.scr script, .val (eI size)] = (P_w_folded script size).map fun z => (.new (.lst (z.map eI)), [.no, .no]) := by
  unfold fm_w_folded m_w_folded P_w_folded
  refine c_fm (oR := fun z : (List Int) => .new (.lst (z.map eI))) (eR := fun z => [.no, .no, .no, .no, .no]) [.scr script, .val (eI size), .no, .no, .no] rfl rfl ?_ (fun _ => rfl) (fun _ => by walk_at "ik") (fun _ => rfl)
  walk_at "~seq set cb cons slScr:1 noPart part nameV:1 partK nil"
  refine c_cbK _ rfl ?_
  refine c_pur x_listL ?_
  refine c_setNL (τ := Int) eI (cutL script none (some size)) (fun cells1 => [.scr script, .val (eI size), .own (.lst (cells1.map eI)), .no, .no]) (fun _ => rfl) fun cells1 => ?_
  walk_at "~seqN seq"
  refine c_bef (e2 := [.scr script, .val (eI size), .own (.lst (cells1.map eI)), .no, .no]) rfl ?_
  walk_at "~for enum cons frz slScr:1 part nameV:1 partK part c partK frzN nil"
  refine c_enumK (l := (cutL script (some size) (some 63))) (ec := eI) rfl ?_
  refine c_loop (E := fun sE : (List Int) => [.scr script, .val (eI size), .own (.lst (sE.map eI)), .no, .no]) (forL_P (E := fun sE : (List Int) => [.scr script, .val (eI size), .own (.lst (sE.map eI)), .no, .no]) (ec := (eT2 eI eI)) (s_w_folded_b2 (.scr script) size) _ cells1) fun s7 => ?_
  walk_at "~seqN ret nameO:1"
  refine c_retK (.new (.lst (s7.map eI))) rfl (e2 := [.no, .no, .no, .no, .no]) rfl ?_
  exact rfl
def m_w_box : MS := (mSeq (mSet 2 (mFrz (mIf (mTest (mOp (gCmp fun i j => decide (i < j)) (mName 1) (mCB gLen (mCons (mName 0) mNil)))) (mOp gIx (mName 0) (mName 1)) (mC (.int 0)))))
    (mRetW [0, 1, 2] (mLst (mCons (mFrz (mOp gMul (mCB (gInt1 fun i => if i < 0 then -i else i) (mCons (mName 2) mNil)) (mCB gInt (mCons (mOp (gCmp fun i j => decide (j ≤ i)) (mCB (gInt1 fun i => if i < 0 then -i else i) (mCons (mName 2) mNil)) (mOp gPow (mC (.int 10)) (mC (.int 18)))) mNil)))) (mCons (mFrz (mOp gAdd (mOp gAdd (mOp gMul (mOp gMod (mName 2) (mC (.int 2147483629))) (mC (.int 48271))) (mOp gMul (mC (.int 15485863)) (mName 1))) (mC (.int 37)))) (mCons (mFrz (mC (.int 0))) mNil))))))
def fm_w_box : FM := fmOf 2 3 m_w_box
theorem ok_w_box (T : Tx w K mg fd) : FnOk P w K mg base CX0 1 (He.ga K "_law_box") (fd 1) ["_law_script", "_law_k"] (spF K fm_w_box) :=
  fn_ok T.F_w_box sc_w_box fun cdv A outer s H E hr => (show VSs _ _ m_w_box from (vs_cons (vs_set (i := 2) sc_w_box.nd (ve_frz (ve_if (vt_cmp op_lt (od_cmp (p := fun i j => decide (i < j))) (ve_name 1) (ve_callB call_len cd_len (by rfl) T.b_len PySem.boot_len (va_cons (ve_name 0) va_nil)) (nomark _)) (ve_ix ix_seq od_ix (ve_name 0) (ve_name 1) (fun _ _ => rfl)) ve_int)))
      (vs_one (vs_retW (ve_lst (va_cons (ve_frz (ve_op or_mul od_mul (ve_callB call_abs (cd_int1 (f := fun i => if i < 0 then -i else i)) (by rfl) T.b_abs (by decide +kernel) (va_cons (ve_name 2) va_nil)) (ve_callTy call_int1 cd_int (by rfl) T.b_int (by decide +kernel) (va_cons (ve_cmp op_ge (od_cmp (p := fun i j => decide (j ≤ i))) (ve_callB call_abs (cd_int1 (f := fun i => if i < 0 then -i else i)) (by rfl) T.b_abs (by decide +kernel) (va_cons (ve_name 2) va_nil)) (ve_op op_pow od_pow ve_int ve_int) (nomark _)) va_nil)))) (va_cons (ve_frz (ve_op or_add od_add (ve_op or_add od_add (ve_op or_mul od_mul (ve_op op_mod od_mod (ve_name 2) ve_int) ve_int) (ve_op or_mul od_mul ve_int (ve_name 1))) ve_int)) (va_cons (ve_frz ve_int) va_nil))))))))
def P_w_box (script : (List Int)) (k : Int) : Option (List Int) :=
  (if decide (k < (script.length : Int)) = true then
    (pIx script k).bind fun t1 =>
    some t1
  else
    some 0).bind fun z2 =>
  (pMul (absI z2) (if decide (1000000000000000000 ≤ (absI z2)) = true then 1 else 0)).bind fun t3 =>
  some [t3, ((((z2 % 2147483629) * 48271) + (15485863 * k)) + 37), 0]
theorem q_w_box (script : (List Int)) (k : Int) : fm_w_box [.val ((eL eI) script), .val (eI k)] = (P_w_box script k).map fun z => (.new (.lst (z.map eI)), [.no, .no]) := by
  unfold fm_w_box m_w_box P_w_box
  refine c_fm (oR := fun z : (List Int) => .new (.lst (z.map eI))) (eR := fun z => [.no, .no, .no]) [.val ((eL eI) script), .val (eI k), .no] rfl rfl ?_ (fun _ => rfl) (fun _ => by walk_at "ik") (fun _ => rfl)
  walk_at "~seq set frz if test op nameV:1 cb cons nameV:1 nil"
  refine c_cbK _ rfl ?_
  refine c_pur (x_lenL (e := eI) (l := script)) ?_
  walk_at "~opK:2"
  refine c_pur x_cmp ?_
  walk_at "~testK"
  refine c_ifJ (fun z2 => (.dat (eI z2), [.val ((eL eI) script), .val (eI k), .no])) ?_ ?_ fun z2 => ?_
  · refine c_op ?_
    walk_at "~nameV:1 nameV:1 opK:2"
    refine c_cal (x_ix (e := eI) (l := script)) fun t1 => ?_
    exact rfl
  · refine c_c ?_
    exact rfl
  walk_at "~frzD"
  refine c_setD (e2 := [.val ((eL eI) script), .val (eI k), .val (eI z2)]) rfl ?_
  walk_at "~seqN ret lst cons frz op cb cons nameV:1 nil"
  refine c_cbK _ rfl ?_
  refine c_pur x_int1 ?_
  walk_at "~cb cons op cb cons nameV:1 nil"
  refine c_cbK _ rfl ?_
  refine c_pur x_int1 ?_
  walk_at "~op c c opK:2"
  refine c_pur (v := .dat (.int 1000000000000000000)) rfl ?_
  walk_at "~opK:2"
  refine c_pur x_cmp ?_
  walk_at "~nil"
  refine c_cbK _ rfl ?_
  refine c_pur x_intB ?_
  walk_at "~opK:2"
  refine c_cal x_mul fun t3 => ?_
  walk_at "~frzD cons frz op op op op nameV:1 c opK:2"
  refine c_pur (x_modC (by decide)) ?_
  walk_at "~c opK:2"
  refine c_pur (x_mulR (by decide)) ?_
  walk_at "~op c nameV:1 opK:2"
  refine c_pur (x_mulL (by decide)) ?_
  walk_at "~opK:2"
  refine c_pur x_add ?_
  walk_at "~c opK:2"
  refine c_pur x_add ?_
  walk_at "~frzD cons frz c frzD nil"
  refine c_lstK ([t3, ((((z2 % 2147483629) * 48271) + (15485863 * k)) + 37), 0].map eI) rfl (Nat.le_of_ble_eq_true rfl) ?_
  refine c_retK (.new (.lst ([t3, ((((z2 % 2147483629) * 48271) + (15485863 * k)) + 37), 0].map eI))) rfl (e2 := [.no, .no, .no]) rfl ?_
  exact rfl
def m_w_take : MS := (mSeq (mIfS (mTest (mOp (gCmp fun i j => decide (j < i)) (mOp gIx (mName 0) (mC (.int 0))) (mC (.int 0)))) (mSeq (mSet 5 (mOp gMod (mOp gIx (mName 0) (mC (.int 0))) (mName 1)))
    (mSeq (mAsg (mOp gDiv (mOp gIx (mName 0) (mC (.int 0))) (mName 1)) (mgSub 0 (mC (.int 0))))
    (mRetW [1, 2, 3, 4, 5] (mName 5)))) mSkip)
    (mSeq (mAsg (mOp gAdd (mOp gIx (mName 0) (mC (.int 2))) (mC (.int 1))) (mgSub 0 (mC (.int 2))))
    (mSeq (mSet 2 (mFrz (mOp gAdd (mC (.int 69621)) (mOp gMul (mOp gIx (mName 0) (mC (.int 2))) (mOp gIx (mName 0) (mC (.int 2)))))))
    (mSeq (mSet 3 (mFrz (mOp gMod (mOp gMul (mOp gAdd (mOp gIx (mName 0) (mC (.int 1))) (mOp gMul (mC (.int 39373)) (mOp gIx (mName 0) (mC (.int 2))))) (mName 2)) (mC (.int 2147483587)))))
    (mSeq (mSet 4 (mFrz (mOp gMod (mOp gAdd (mOp gMul (mName 3) (mOp gAdd (mOp gMod (mName 3) (mC (.int 30011))) (mC (.int 5)))) (mOp gIx (mName 0) (mC (.int 2)))) (mC (.int 2147483563)))))
    (mRetW [1, 2, 3, 4, 5] (mOp gMod (mOp gDiv (mOp gMod (mOp gMul (mName 4) (mOp gAdd (mOp gMod (mName 4) (mC (.int 1013))) (mC (.int 3)))) (mC (.int 998244353))) (mC (.int 16))) (mName 1))))))))
def fm_w_take : FM := fmOf 2 6 m_w_take
theorem ok_w_take (T : Tx w K mg fd) : FnOk P w K mg base CX0 1 (He.ga K "_law_take") (fd 2) ["_law_box_here", "_law_many"] (spF K fm_w_take) :=
  fn_ok T.F_w_take sc_w_take fun cdv A outer s H E hr => (show VSs _ _ m_w_take from (vs_cons (vs_if (vt_cmp op_gt (od_cmp (p := fun i j => decide (j < i))) (ve_ix ix_seq od_ix (ve_name 0) ve_int (fun _ _ => rfl)) ve_int (nomark _)) (vs_cons (vs_set (i := 5) sc_w_take.nd (ve_op op_mod od_mod (ve_ix ix_seq od_ix (ve_name 0) ve_int (fun _ _ => rfl)) (ve_name 1)))
      (vs_cons (vs_asg (ve_op op_fdiv od_div (ve_ix ix_seq od_ix (ve_name 0) ve_int (fun _ _ => rfl)) (ve_name 1)) (vg_sub (i := 0) ve_int))
      (vs_one (vs_retW (ve_name 5))))) vs_nil)
      (vs_cons (vs_asg (ve_op or_add od_add (ve_ix ix_seq od_ix (ve_name 0) ve_int (fun _ _ => rfl)) ve_int) (vg_sub (i := 0) ve_int))
      (vs_cons (vs_set (i := 2) sc_w_take.nd (ve_frz (ve_op or_add od_add ve_int (ve_op or_mul od_mul (ve_ix ix_seq od_ix (ve_name 0) ve_int (fun _ _ => rfl)) (ve_ix ix_seq od_ix (ve_name 0) ve_int (fun _ _ => rfl))))))
      (vs_cons (vs_set (i := 3) sc_w_take.nd (ve_frz (ve_op op_mod od_mod (ve_op or_mul od_mul (ve_op or_add od_add (ve_ix ix_seq od_ix (ve_name 0) ve_int (fun _ _ => rfl)) (ve_op or_mul od_mul ve_int (ve_ix ix_seq od_ix (ve_name 0) ve_int (fun _ _ => rfl)))) (ve_name 2)) ve_int)))
      (vs_cons (vs_set (i := 4) sc_w_take.nd (ve_frz (ve_op op_mod od_mod (ve_op or_add od_add (ve_op or_mul od_mul (ve_name 3) (ve_op or_add od_add (ve_op op_mod od_mod (ve_name 3) ve_int) ve_int)) (ve_ix ix_seq od_ix (ve_name 0) ve_int (fun _ _ => rfl))) ve_int)))
      (vs_one (vs_retW (ve_op op_mod od_mod (ve_op op_fdiv od_div (ve_op op_mod od_mod (ve_op or_mul od_mul (ve_name 4) (ve_op or_add od_add (ve_op op_mod od_mod (ve_name 4) ve_int) ve_int)) ve_int) ve_int) (ve_name 1))))))))))
def P_w_take (box : (List Int)) (many : Int) : Option (Int × (List Int)) :=
  (pIx box 0).bind fun t1 =>
  if decide (0 < t1) = true then
    (pIx box 0).bind fun t2 =>
    (pMod t2 many).bind fun t3 =>
    (pIx box 0).bind fun t4 =>
    (pDiv t4 many).bind fun t5 =>
    (pSet box 0 t5).bind fun box6 =>
    some (t3, box6)
  else
    (pIx box 2).bind fun t7 =>
    (pSet box 2 (t7 + 1)).bind fun box8 =>
    (pIx box8 2).bind fun t9 =>
    (pIx box8 2).bind fun t10 =>
    (pMul t9 t10).bind fun t11 =>
    (some (69621 + t11)).bind fun step12 =>
    (pIx box8 1).bind fun t13 =>
    (pIx box8 2).bind fun t14 =>
    (pMul (t13 + (39373 * t14)) step12).bind fun t15 =>
    (some (t15 % 2147483587)).bind fun once16 =>
    (pMul once16 ((once16 % 30011) + 5)).bind fun t17 =>
    (pIx box8 2).bind fun t18 =>
    (some ((t17 + t18) % 2147483563)).bind fun twice19 =>
    (pMul twice19 ((twice19 % 1013) + 3)).bind fun t20 =>
    (pMod ((t20 % 998244353) / 16) many).bind fun t21 =>
    some (t21, box8)
theorem q_w_take (box : (List Int)) (many : Int) : fm_w_take [.io 0 (.lst (box.map eI)), .val (eI many)] = (P_w_take box many).map fun z => (.dat (eI z.1), [.io 0 (.lst (z.2.map eI)), .no]) := by
  unfold fm_w_take m_w_take P_w_take
  refine c_fm (oR := fun z : (Int × (List Int)) => .dat (eI z.1)) (eR := fun z => [.io 0 (.lst (z.2.map eI)), .no, .no, .no, .no, .no]) [.io 0 (.lst (box.map eI)), .val (eI many), .no, .no, .no, .no] rfl rfl ?_ (fun _ => rfl) (fun _ => by walk_at "ik") (fun _ => rfl)
  walk_at "~seq ifS test op op nameI:1 c opK:2"
  refine c_cal (x_ix (e := eI) (l := box)) fun t1 => ?_
  walk_at "~c opK:2"
  refine c_pur x_cmp ?_
  walk_at "~testK"
  refine c_ite ?_ ?_
  · refine c_seq ?_
    walk_at "~set op op nameI:1 c opK:2"
    refine c_cal (x_ix (e := eI) (l := box)) fun t2 => ?_
    walk_at "~nameV:1 opK:2"
    refine c_cal x_mod fun t3 => ?_
    refine c_setD (e2 := [.io 0 (.lst (box.map eI)), .val (eI many), .no, .no, .no, .val (eI t3)]) rfl ?_
    walk_at "~seqN seq asg op op nameI:1 c opK:2"
    refine c_cal (x_ix (e := eI) (l := box)) fun t4 => ?_
    walk_at "~nameV:1 opK:2"
    refine c_cal x_div fun t5 => ?_
    walk_at "~frzD asgK gsub:1 c"
    refine c_gsubP eI box t5 (fun box6 => [.io 0 (.lst (box6.map eI)), .val (eI many), .no, .no, .no, .val (eI t3)]) rfl (fun _ => rfl) fun box6 => ?_
    walk_at "~seqN ret nameV:1"
    refine c_retK (.dat (eI t3)) rfl (e2 := [.io 0 (.lst (box6.map eI)), .no, .no, .no, .no, .no]) rfl ?_
    walk_at "~seqR"
    exact rfl
  · refine c_skip ?_
    walk_at "~seqN seq asg op op nameI:1 c opK:2"
    refine c_cal (x_ix (e := eI) (l := box)) fun t7 => ?_
    walk_at "~c opK:2"
    refine c_pur x_add ?_
    walk_at "~frzD asgK gsub:1 c"
    refine c_gsubP eI box (t7 + 1) (fun box8 => [.io 0 (.lst (box8.map eI)), .val (eI many), .no, .no, .no, .no]) rfl (fun _ => rfl) fun box8 => ?_
    walk_at "~seqN seq set frz op c op op nameI:1 c opK:2"
    refine c_cal (x_ix (e := eI) (l := box8)) fun t9 => ?_
    walk_at "~op nameI:1 c opK:2"
    refine c_cal (x_ix (e := eI) (l := box8)) fun t10 => ?_
    walk_at "~opK:2"
    refine c_cal x_mul fun t11 => ?_
    walk_at "~opK:2"
    refine c_pur x_add ?_
    walk_at "~frzD"
    refine c_setDL (τ := Int) eI (69621 + t11) (fun step12 => [.io 0 (.lst (box8.map eI)), .val (eI many), .val (eI step12), .no, .no, .no]) (fun _ => rfl) fun step12 => ?_
    walk_at "~seqN seq set frz op op op op nameI:1 c opK:2"
    refine c_cal (x_ix (e := eI) (l := box8)) fun t13 => ?_
    walk_at "~op c op nameI:1 c opK:2"
    refine c_cal (x_ix (e := eI) (l := box8)) fun t14 => ?_
    walk_at "~opK:2"
    refine c_pur (x_mulL (by decide)) ?_
    walk_at "~opK:2"
    refine c_pur x_add ?_
    walk_at "~nameV:1 opK:2"
    refine c_cal x_mul fun t15 => ?_
    walk_at "~c opK:2"
    refine c_pur (x_modC (by decide)) ?_
    walk_at "~frzD"
    refine c_setDL (τ := Int) eI (t15 % 2147483587) (fun once16 => [.io 0 (.lst (box8.map eI)), .val (eI many), .val (eI step12), .val (eI once16), .no, .no]) (fun _ => rfl) fun once16 => ?_
    walk_at "~seqN seq set frz op op op nameV:1 op op nameV:1 c opK:2"
    refine c_pur (x_modC (by decide)) ?_
    walk_at "~c opK:2"
    refine c_pur x_add ?_
    walk_at "~opK:2"
    refine c_cal x_mul fun t17 => ?_
    walk_at "~op nameI:1 c opK:2"
    refine c_cal (x_ix (e := eI) (l := box8)) fun t18 => ?_
    walk_at "~opK:2"
    refine c_pur x_add ?_
    walk_at "~c opK:2"
    refine c_pur (x_modC (by decide)) ?_
    walk_at "~frzD"
    refine c_setDL (τ := Int) eI ((t17 + t18) % 2147483563) (fun twice19 => [.io 0 (.lst (box8.map eI)), .val (eI many), .val (eI step12), .val (eI once16), .val (eI twice19), .no]) (fun _ => rfl) fun twice19 => ?_
    walk_at "~seqN ret op op op op nameV:1 op op nameV:1 c opK:2"
    refine c_pur (x_modC (by decide)) ?_
    walk_at "~c opK:2"
    refine c_pur x_add ?_
    walk_at "~opK:2"
    refine c_cal x_mul fun t20 => ?_
    walk_at "~c opK:2"
    refine c_pur (x_modC (by decide)) ?_
    walk_at "~c opK:2"
    refine c_pur (x_divC (by decide)) ?_
    walk_at "~nameV:1 opK:2"
    refine c_cal x_mod fun t21 => ?_
    refine c_retK (.dat (eI t21)) rfl (e2 := [.io 0 (.lst (box8.map eI)), .no, .no, .no, .no, .no]) rfl ?_
    exact rfl
def m_w_wide_b1 : MS := (mAft [3] (mSet 2 (mFrz (mOp gAdd (mOp gMul (mName 2) (mOp gPow (mC (.int 10)) (mC (.int 9)))) (mCallF fm_w_take (some 0) (mCons (mName 0) (mCons (mOp gPow (mC (.int 10)) (mC (.int 9))) mNil)))))))
def P_w_wide_b2  (xx : Int) (ss : ((List Int) × Int)) : Option ((List Int) × Int) :=
  (P_w_take ss.1 1000000000).bind fun r2 =>
  (some ((ss.2 * 1000000000) + r2.1)).bind fun found3 =>
  some (r2.2, found3)
theorem s_w_wide_b2 (o1 : Slot) (xx : Int) (ss : ((List Int) × Int)) : ((mgName 3) (eI xx) [.io 0 (.lst (ss.1.map eI)), o1, .val (eI ss.2), .no]).bind m_w_wide_b1 = (P_w_wide_b2  xx ss).map (outN (fun ss : ((List Int) × Int) => [.io 0 (.lst (ss.1.map eI)), o1, .val (eI ss.2), .no])) := c_body (by
  unfold P_w_wide_b2 m_w_wide_b1
  refine c_gname (e2 := [.io 0 (.lst (ss.1.map eI)), o1, .val (eI ss.2), .val (eI xx)]) rfl ?_
  walk_at "~aft set frz op op nameV:1 op c c opK:2"
  refine c_pur (v := .dat (.int 1000000000)) rfl ?_
  walk_at "~opK:2"
  refine c_pur (x_mulR (by decide)) ?_
  walk_at "~callF cons nameI:1 cons op c c opK:2"
  refine c_pur (v := .dat (.int 1000000000)) rfl ?_
  walk_at "~nil"
  refine c_callK (bk := fun r2 => [.io 0 (.lst (r2.2.map eI)), o1, .val (eI ss.2), .val (eI xx)]) rfl rfl (q_w_take ss.1 1000000000) (fun _ => by walk_at "fl") (fun _ => rfl) fun r2 => ?_
  walk_at "~opK:2"
  refine c_pur x_add ?_
  walk_at "~frzD"
  refine c_setDL (τ := Int) eI ((ss.2 * 1000000000) + r2.1) (fun found3 => [.io 0 (.lst (r2.2.map eI)), o1, .val (eI found3), .val (eI xx)]) (fun _ => rfl) fun found3 => ?_
  refine c_aftN (e2 := [.io 0 (.lst (r2.2.map eI)), o1, .val (eI found3), .no]) rfl ?_
  exact rfl)
def m_w_wide : MS := (mSeq (mSet 2 (mFrz (mC (.int 0))))
    (mSeq (mBef [3] (mFor (mRange1 (mCons (mC (.int 4)) mNil)) (mgName 3) m_w_wide_b1))
    (mRetW [1, 2, 3] (mOp gMod (mName 2) (mName 1)))))
def fm_w_wide : FM := fmOf 2 4 m_w_wide
theorem ok_w_wide (T : Tx w K mg fd) : FnOk P w K mg base CX0 2 (He.ga K "_law_wide") (fd 3) ["_law_box_here", "_law_many"] (spF K fm_w_wide) :=
  fn_ok T.F_w_wide sc_w_wide fun cdv A outer s H E hr => (show VSs _ _ m_w_wide from (vs_cons (vs_set (i := 2) sc_w_wide.nd (ve_frz ve_int))
      (vs_cons (vs_bef (ws := [3]) (vs_for PassesOwn.never (vi_range1 T.b_range (va_cons ve_int va_nil)) (vg_name (j := 3) sc_w_wide.nd) (vs_aft (ws := [3]) (vs_one (vs_set (i := 2) sc_w_wide.nd (ve_frz (ve_op or_add od_add (ve_op or_mul od_mul (ve_name 2) (ve_op op_pow od_pow ve_int ve_int)) (ve_callF (some 0) (FnOk.mono (ok_w_take T) (by decide)) hr T.g_w_take T.F_w_take.kp (bi_w_take T) (va_cons (ve_name 0) (va_cons (ve_op op_pow od_pow ve_int ve_int) va_nil))))))))))
      (vs_one (vs_retW (ve_op op_mod od_mod (ve_name 2) (ve_name 1)))))))
def P_w_wide (box : (List Int)) (many : Int) : Option (Int × (List Int)) :=
  (pRng 4).bind fun l1 =>
  (forP (P_w_wide_b2 ) l1 (box, 0)).bind fun s4 =>
  (pMod s4.2 many).bind fun t5 =>
  some (t5, s4.1)
theorem q_w_wide (box : (List Int)) (many : Int) : fm_w_wide [.io 0 (.lst (box.map eI)), .val (eI many)] = (P_w_wide box many).map fun z => (.dat (eI z.1), [.io 0 (.lst (z.2.map eI)), .no]) := by
  unfold fm_w_wide m_w_wide P_w_wide
  refine c_fm (oR := fun z : (Int × (List Int)) => .dat (eI z.1)) (eR := fun z => [.io 0 (.lst (z.2.map eI)), .no, .no, .no]) [.io 0 (.lst (box.map eI)), .val (eI many), .no, .no] rfl rfl ?_ (fun _ => rfl) (fun _ => by walk_at "ik") (fun _ => rfl)
  walk_at "~seq set frz c frzD"
  refine c_setD (e2 := [.io 0 (.lst (box.map eI)), .val (eI many), .val (eI 0), .no]) rfl ?_
  walk_at "~seqN seq"
  refine c_bef (e2 := [.io 0 (.lst (box.map eI)), .val (eI many), .val (eI 0), .no]) rfl ?_
  walk_at "~for rng cons c nil"
  refine c_rngK rfl fun l1 => ?_
  refine c_loop (E := fun sE : ((List Int) × Int) => [.io 0 (.lst (sE.1.map eI)), .val (eI many), .val (eI sE.2), .no]) (forL_P (E := fun sE : ((List Int) × Int) => [.io 0 (.lst (sE.1.map eI)), .val (eI many), .val (eI sE.2), .no]) (ec := eI) (s_w_wide_b2 (.val (eI many))) _ (box, 0)) fun s4 => ?_
  walk_at "~seqN ret op nameV:1 nameV:1 opK:2"
  refine c_cal x_mod fun t5 => ?_
  refine c_retK (.dat (eI t5)) rfl (e2 := [.io 0 (.lst (s4.1.map eI)), .no, .no, .no]) rfl ?_
  exact rfl
def m_w_word_b1 : MS := (mAft [4, 5, 6, 7] (mSeq (mSet 6 (mFrz (mOp gIx (mLst (mCons (mFrz (mOp gIx (mLst (mCons (mFrz (mC (.int 40))) (mCons (mFrz (mOp gPow (mC (.int 10)) (mC (.int 9)))) (mCons (mFrz (mOp gPow (mC (.int 10)) (mC (.int 10)))) mNil)))) (mCallF fm_w_take (some 0) (mCons (mName 0) (mCons (mC (.int 3)) mNil))))) (mCons (mFrz (mOp gDiv (mOp gIx (mName 1) (mC (.int 0))) (mOp gIx (mName 1) (mC (.int 1))))) (mCons (mFrz (mOp gIx (mName 1) (mC (.int 1)))) mNil)))) (mName 4))))
    (mSeq (mSet 7 (mFrz (mCallF fm_w_wide (some 0) (mCons (mName 0) (mCons (mName 6) mNil)))))
    (mIfS (mAnd (mTest (mOp (gCmp fun i j => decide (j < i)) (mCallF fm_w_take (some 0) (mCons (mName 0) (mCons (mC (.int 3)) mNil))) (mC (.int 0)))) (mTest (mOp (gCmp fun i j => decide (j < i)) (mName 7) (mC (.int 0))))) (mAft [] (mSet 3 (mOp gAdd (mOp gAdd (mName 3) (mCB gStr (mCons (mName 7) mNil))) (mName 5)))) (mAft [] mSkip)))))
def P_w_word_b2 (units : (Int × Int)) (xx : (Int × Str)) (ss : ((List Int) × Str)) : Option ((List Int) × Str) :=
  (P_w_take ss.1 3).bind fun r2 =>
  (pIx [40, 1000000000, 10000000000] r2.1).bind fun t3 =>
  (pDiv units.1 units.2).bind fun t4 =>
  (pIx [t3, t4, units.2] xx.1).bind fun t5 =>
  (P_w_wide r2.2 t5).bind fun r6 =>
  (P_w_take r6.2 3).bind fun r7 =>
  (if decide (0 < r7.1) = true then
    some (decide (0 < r6.1))
  else
    some false).bind fun z8 =>
  (if z8 = true then
    (pStr r6.1).bind fun t10 =>
    (pCatS ss.2 t10).bind fun t11 =>
    (pCatS t11 xx.2).bind fun t12 =>
    some t12
  else
    some ss.2).bind fun z9 =>
  some (r7.2, z9)
theorem s_w_word_b2 (units : (Int × Int)) (o2 : Slot) (xx : (Int × Str)) (ss : ((List Int) × Str)) : ((mgTup (mgCons (mgName 4) (mgCons (mgName 5) mgNil))) ((eT2 eI eS) xx) [.io 0 (.lst (ss.1.map eI)), .val ((eT2 eI eI) units), o2, .val (eS ss.2), .no, .no, .no, .no]).bind m_w_word_b1 = (P_w_word_b2 units xx ss).map (outN (fun ss : ((List Int) × Str) => [.io 0 (.lst (ss.1.map eI)), .val ((eT2 eI eI) units), o2, .val (eS ss.2), .no, .no, .no, .no])) := c_body (by
  unfold P_w_word_b2 m_w_word_b1
  walk_at "~gtup gcons"
  refine c_gname (e2 := [.io 0 (.lst (ss.1.map eI)), .val ((eT2 eI eI) units), o2, .val (eS ss.2), .val (eI xx.1), .no, .no, .no]) rfl ?_
  walk_at "~gcons"
  refine c_gname (e2 := [.io 0 (.lst (ss.1.map eI)), .val ((eT2 eI eI) units), o2, .val (eS ss.2), .val (eI xx.1), .val (eS xx.2), .no, .no]) rfl ?_
  walk_at "~gnil aft seq set frz op lst cons frz op lst cons frz c frzD cons frz op c c opK:2"
  refine c_pur (v := .dat (.int 1000000000)) rfl ?_
  walk_at "~frzD cons frz op c c opK:2"
  refine c_pur (v := .dat (.int 10000000000)) rfl ?_
  walk_at "~frzD nil"
  refine c_lstK ([40, 1000000000, 10000000000].map eI) rfl (Nat.le_of_ble_eq_true rfl) ?_
  walk_at "~callF cons nameI:1 cons c nil"
  refine c_callK (bk := fun r2 => [.io 0 (.lst (r2.2.map eI)), .val ((eT2 eI eI) units), o2, .val (eS ss.2), .val (eI xx.1), .val (eS xx.2), .no, .no]) rfl rfl (q_w_take ss.1 3) (fun _ => by walk_at "fl") (fun _ => rfl) fun r2 => ?_
  walk_at "~opK:2"
  refine c_cal (x_ix (e := eI) (l := [40, 1000000000, 10000000000])) fun t3 => ?_
  walk_at "~frzD cons frz op op nameV:1 c opK:2"
  refine c_pur (x_ixT rfl) ?_
  walk_at "~op nameV:1 c opK:2"
  refine c_pur (x_ixT rfl) ?_
  walk_at "~opK:2"
  refine c_cal x_div fun t4 => ?_
  walk_at "~frzD cons frz op nameV:1 c opK:2"
  refine c_pur (x_ixT rfl) ?_
  walk_at "~frzD nil"
  refine c_lstK ([t3, t4, units.2].map eI) rfl (Nat.le_of_ble_eq_true rfl) ?_
  walk_at "~nameV:1 opK:2"
  refine c_cal (x_ix (e := eI) (l := [t3, t4, units.2])) fun t5 => ?_
  walk_at "~frzD"
  refine c_setD (e2 := [.io 0 (.lst (r2.2.map eI)), .val ((eT2 eI eI) units), o2, .val (eS ss.2), .val (eI xx.1), .val (eS xx.2), .val (eI t5), .no]) rfl ?_
  walk_at "~seqN seq set frz callF cons nameI:1 cons nameV:1 nil"
  refine c_callK (bk := fun r6 => [.io 0 (.lst (r6.2.map eI)), .val ((eT2 eI eI) units), o2, .val (eS ss.2), .val (eI xx.1), .val (eS xx.2), .val (eI t5), .no]) rfl rfl (q_w_wide r2.2 t5) (fun _ => by walk_at "fl") (fun _ => rfl) fun r6 => ?_
  walk_at "~frzD"
  refine c_setD (e2 := [.io 0 (.lst (r6.2.map eI)), .val ((eT2 eI eI) units), o2, .val (eS ss.2), .val (eI xx.1), .val (eS xx.2), .val (eI t5), .val (eI r6.1)]) rfl ?_
  walk_at "~seqN ifS andB test op callF cons nameI:1 cons c nil"
  refine c_callK (bk := fun r7 => [.io 0 (.lst (r7.2.map eI)), .val ((eT2 eI eI) units), o2, .val (eS ss.2), .val (eI xx.1), .val (eS xx.2), .val (eI t5), .val (eI r6.1)]) rfl rfl (q_w_take r6.2 3) (fun _ => by walk_at "fl") (fun _ => rfl) fun r7 => ?_
  walk_at "~c opK:2"
  refine c_pur x_cmp ?_
  walk_at "~testK"
  refine c_ifJ (fun z8 => (z8, [.io 0 (.lst (r7.2.map eI)), .val ((eT2 eI eI) units), o2, .val (eS ss.2), .val (eI xx.1), .val (eS xx.2), .val (eI t5), .val (eI r6.1)])) ?_ ?_ fun z8 => ?_
  · refine c_test ?_
    walk_at "~op nameV:1 c opK:2"
    refine c_pur x_cmp ?_
    walk_at "~testK"
    exact rfl
  · exact rfl
  refine c_ifJ (fun z9 : Str => (.nx, [.io 0 (.lst (r7.2.map eI)), .val ((eT2 eI eI) units), o2, .val (eS z9), .val (eI xx.1), .val (eS xx.2), .val (eI t5), .val (eI r6.1)])) ?_ ?_ fun z9 => ?_
  · refine c_aft ?_
    walk_at "~set op op nameV:1 cb cons nameV:1 nil"
    refine c_cbK _ rfl ?_
    refine c_cal x_str fun t10 => ?_
    walk_at "~opK:2"
    refine c_cal x_catS fun t11 => ?_
    walk_at "~nameV:1 opK:2"
    refine c_cal x_catS fun t12 => ?_
    refine c_setD (e2 := [.io 0 (.lst (r7.2.map eI)), .val ((eT2 eI eI) units), o2, .val (eS t12), .val (eI xx.1), .val (eS xx.2), .val (eI t5), .val (eI r6.1)]) rfl ?_
    refine c_aftN (e2 := [.io 0 (.lst (r7.2.map eI)), .val ((eT2 eI eI) units), o2, .val (eS t12), .val (eI xx.1), .val (eS xx.2), .val (eI t5), .val (eI r6.1)]) rfl ?_
    exact rfl
  · refine c_aft ?_
    walk_at "~skip"
    refine c_aftN (e2 := [.io 0 (.lst (r7.2.map eI)), .val ((eT2 eI eI) units), o2, .val (eS ss.2), .val (eI xx.1), .val (eS xx.2), .val (eI t5), .val (eI r6.1)]) rfl ?_
    exact rfl
  refine c_aftN (e2 := [.io 0 (.lst (r7.2.map eI)), .val ((eT2 eI eI) units), o2, .val (eS z9), .no, .no, .no, .no]) rfl ?_
  exact rfl)
def m_w_word : MS := (mSeq (mSet 3 (mC (.str "")))
    (mSeq (mBef [4, 5, 6, 7] (mFor (mEnumS (mCons (mFrz (mName 2)) mNil)) (mgTup (mgCons (mgName 4) (mgCons (mgName 5) mgNil))) m_w_word_b1))
    (mRetW [1, 2, 3, 4, 5, 6, 7] (mName 3))))
def fm_w_word : FM := fmOf 3 8 m_w_word
theorem ok_w_word (T : Tx w K mg fd) : FnOk P w K mg base CX0 3 (He.ga K "_law_word") (fd 4) ["_law_box_here", "_law_units", "_law_letters"] (spF K fm_w_word) :=
  fn_ok T.F_w_word sc_w_word fun cdv A outer s H E hr => (show VSs _ _ m_w_word from (vs_cons (vs_set (i := 3) sc_w_word.nd ve_str)
      (vs_cons (vs_bef (ws := [4, 5, 6, 7]) (vs_for PassesOwn.never (vi_enumS T.b_enumerate (va_cons (ve_frz (ve_name 2)) va_nil)) (vg_tup (vgs_cons (vg_name (j := 4) sc_w_word.nd) (vgs_cons (vg_name (j := 5) sc_w_word.nd) vgs_nil)) (mgcons_len (mgcons_len mgnil_len))) (vs_aft (ws := [4, 5, 6, 7]) (vs_cons (vs_set (i := 6) sc_w_word.nd (ve_frz (ve_ix ix_seq od_ix (ve_lst (va_cons (ve_frz (ve_ix ix_seq od_ix (ve_lst (va_cons (ve_frz ve_int) (va_cons (ve_frz (ve_op op_pow od_pow ve_int ve_int)) (va_cons (ve_frz (ve_op op_pow od_pow ve_int ve_int)) va_nil)))) (ve_callF (some 0) (FnOk.mono (ok_w_take T) (by decide)) hr T.g_w_take T.F_w_take.kp (bi_w_take T) (va_cons (ve_name 0) (va_cons ve_int va_nil))) (fun _ _ => rfl))) (va_cons (ve_frz (ve_op op_fdiv od_div (ve_ix ix_seq od_ix (ve_name 1) ve_int (fun _ _ => rfl)) (ve_ix ix_seq od_ix (ve_name 1) ve_int (fun _ _ => rfl)))) (va_cons (ve_frz (ve_ix ix_seq od_ix (ve_name 1) ve_int (fun _ _ => rfl))) va_nil)))) (ve_name 4) (fun _ _ => rfl))))
      (vs_cons (vs_set (i := 7) sc_w_word.nd (ve_frz (ve_callF (some 0) (FnOk.mono (ok_w_wide T) (by decide)) hr T.g_w_wide T.F_w_wide.kp (bi_w_wide T) (va_cons (ve_name 0) (va_cons (ve_name 6) va_nil)))))
      (vs_one (vs_if (vt_w (vw_and (vt_cmp op_gt (od_cmp (p := fun i j => decide (j < i))) (ve_callF (some 0) (FnOk.mono (ok_w_take T) (by decide)) hr T.g_w_take T.F_w_take.kp (bi_w_take T) (va_cons (ve_name 0) (va_cons ve_int va_nil))) ve_int (nomark _)) (vw_and1 (vt_cmp op_gt (od_cmp (p := fun i j => decide (j < i))) (ve_name 7) ve_int (nomark _))))) (vs_aft (ws := []) (vs_one (vs_set (i := 3) sc_w_word.nd (ve_op or_add od_add (ve_op or_add od_add (ve_name 3) (ve_callTy call_str_int cd_str (by rfl) T.b_str (by decide +kernel) (va_cons (ve_name 7) va_nil))) (ve_name 5))))) (vs_aft (ws := []) vs_nil))))))))
      (vs_one (vs_retW (ve_name 3))))))
def P_w_word (box : (List Int)) (units : (Int × Int)) (letters : Str) : Option (Str × (List Int)) :=
  (some ("" : Str)).bind fun found1 =>
  (forP (P_w_word_b2 units) (enumI 0 (signs letters)) (box, found1)).bind fun s13 =>
  some (s13.2, s13.1)
theorem q_w_word (box : (List Int)) (units : (Int × Int)) (letters : Str) : fm_w_word [.io 0 (.lst (box.map eI)), .val ((eT2 eI eI) units), .val (eS letters)] = (P_w_word box units letters).map fun z => (.dat (eS z.1), [.io 0 (.lst (z.2.map eI)), .no, .no]) := by
  unfold fm_w_word m_w_word P_w_word
  refine c_fm (oR := fun z : (Str × (List Int)) => .dat (eS z.1)) (eR := fun z => [.io 0 (.lst (z.2.map eI)), .no, .no, .no, .no, .no, .no, .no]) [.io 0 (.lst (box.map eI)), .val ((eT2 eI eI) units), .val (eS letters), .no, .no, .no, .no, .no] rfl rfl ?_ (fun _ => rfl) (fun _ => by walk_at "ik") (fun _ => rfl)
  walk_at "~seq set c"
  refine c_setDL (τ := Str) eS ("" : Str) (fun found1 => [.io 0 (.lst (box.map eI)), .val ((eT2 eI eI) units), .val (eS letters), .val (eS found1), .no, .no, .no, .no]) (fun _ => rfl) fun found1 => ?_
  walk_at "~seqN seq"
  refine c_bef (e2 := [.io 0 (.lst (box.map eI)), .val ((eT2 eI eI) units), .val (eS letters), .val (eS found1), .no, .no, .no, .no]) rfl ?_
  walk_at "~for enumS cons frz nameV:1 frzD nil enumSK"
  refine c_loop (E := fun sE : ((List Int) × Str) => [.io 0 (.lst (sE.1.map eI)), .val ((eT2 eI eI) units), .val (eS letters), .val (eS sE.2), .no, .no, .no, .no]) (forL_P (E := fun sE : ((List Int) × Str) => [.io 0 (.lst (sE.1.map eI)), .val ((eT2 eI eI) units), .val (eS letters), .val (eS sE.2), .no, .no, .no, .no]) (ec := (eT2 eI eS)) (s_w_word_b2 units (.val (eS letters))) _ (box, found1)) fun s13 => ?_
  walk_at "~seqN ret nameV:1"
  refine c_retK (.dat (eS s13.2)) rfl (e2 := [.io 0 (.lst (s13.1.map eI)), .no, .no, .no, .no, .no, .no, .no]) rfl ?_
  exact rfl
def m_w_parts_b1 : MS := (mAft [3] (mIfS (mTest (mOp (gInS false) (mName 3) (mC (.str "0123456789")))) (mSet 2 (mFrz (mOp gAdd (mName 2) (mName 3)))) (mIfS (mTest (mOp (gEq true) (mName 2) (mC (.str "")))) (mSeq (mDrop (mPM gAppP (mName 1) (mCons (mTup (mCons (mFrz (mName 2)) (mCons (mFrz (mName 3)) mNil))) mNil)))
    (mSet 2 (mFrz (mC (.str ""))))) (mRetW [0, 1, 2, 3] (mIn (mC .none))))))
def P_w_parts_b2  (xx : Str) (ss : (PV × Str × (List MC))) : Option (Fw (PV × List MC) (PV × Str × (List MC))) :=
  (pInS false xx ("0123456789" : Str)).bind fun t2 =>
  if t2 = true then
    (pCatS ss.2.1 xx).bind fun t3 =>
    some (.nx (ss.1, t3, ss.2.2))
  else
    if (!decide (ss.2.1 = ("" : Str))) = true then
      (gd (isLP ss.2.2 ss.1 = true)).bind fun _ =>
      (gAppP ss.2.2 ss.1 [.dat ((eT2 eS eS) (ss.2.1, xx))]).bind fun z4 =>
      (some ("" : Str)).bind fun figures5 =>
      some (.nx (ss.1, figures5, z4.2))
    else
      some (.rt ((PV.dat (eU ())), ss.2.2))
theorem s_w_parts_b2 (o0 : Slot) (xx : Str) (ss : (PV × Str × (List MC))) : ((mgName 3) (eS xx) [o0, .pv ss.1, .val (eS ss.2.1), .no, .sto ss.2.2]).bind m_w_parts_b1 = (P_w_parts_b2  xx ss).map (outB (fun z : (PV × List MC) => .pv z.1) (fun z => [.no, .no, .no, .no, .sto z.2]) (fun ss : (PV × Str × (List MC)) => [o0, .pv ss.1, .val (eS ss.2.1), .no, .sto ss.2.2])) := c_body (by
  unfold P_w_parts_b2 m_w_parts_b1
  refine c_gname (e2 := [o0, .pv ss.1, .val (eS ss.2.1), .val (eS xx), .sto ss.2.2]) rfl ?_
  walk_at "~aft ifS test op nameV:1 c opK:2"
  refine c_cal x_inS fun t2 => ?_
  walk_at "~testK"
  refine c_ite ?_ ?_
  · refine c_set ?_
    walk_at "~frz op nameV:1 nameV:1 opK:2"
    refine c_cal x_catS fun t3 => ?_
    walk_at "~frzD"
    refine c_setD (e2 := [o0, .pv ss.1, .val (eS t3), .val (eS xx), .sto ss.2.2]) rfl ?_
    refine c_aftN (e2 := [o0, .pv ss.1, .val (eS t3), .no, .sto ss.2.2]) rfl ?_
    exact rfl
  · refine c_ifS ?_
    walk_at "~test op nameV:1 c opK:2"
    refine c_pur x_eqS1 ?_
    walk_at "~testK"
    refine c_ite ?_ ?_
    · refine c_seq ?_
      walk_at "~drop pm nameP:1"
      refine c_pmK0 (x := ss.1) rfl rfl fun _ => ?_
      walk_at "~cons tup cons frz nameV:1 frzD cons frz nameV:1 frzD nil"
      refine c_tupK _ rfl (Nat.le_of_ble_eq_true rfl) ?_
      walk_at "~nil"
      refine c_pmK [.dat ((eT2 eS eS) (ss.2.1, xx))] (fun M_ => [o0, .pv ss.1, .val (eS ss.2.1), .val (eS xx), .sto M_]) rfl rfl (fun _ => rfl) fun z4 => ?_
      walk_at "~seqN set frz c frzD"
      refine c_setDL (τ := Str) eS ("" : Str) (fun figures5 => [o0, .pv ss.1, .val (eS figures5), .val (eS xx), .sto z4.2]) (fun _ => rfl) fun figures5 => ?_
      refine c_aftN (e2 := [o0, .pv ss.1, .val (eS figures5), .no, .sto z4.2]) rfl ?_
      exact rfl
    · refine c_ret ?_
      walk_at "~in c inD"
      refine c_retK (.pv (PV.dat (eU ()))) rfl (e2 := [.no, .no, .no, .no, .sto ss.2.2]) rfl ?_
      walk_at "~aftR"
      exact rfl)
def m_w_parts : MS := (mSeq (mPutU [1, 2] (mConsU (mPlst mNil) (mConsU (mC (.str "")) mNil)))
    (mSeq (mBef [3] (mFor (mItS (mName 0)) (mgName 3) m_w_parts_b1))
    (mRetW [0, 1, 2, 3] (mIf (mLendKT (mAnd (mTest (mOp (gEq false) (mName 2) (mC (.str "")))) (mTest (mOp (gEq true) (mTyE (fun d => ((decL (decT2 decS decS)).f d).isSome) (mKn (mName 1))) (mLst mNil))))) (mName 1) (mIn (mC .none))))))
def fm_w_parts : FM := fmSt 1 5 m_w_parts
theorem ok_w_parts (T : Tx w K mg fd) : FnOk P w K mg base CX0 1 (He.ga K "_law_parts") (fd 5) ["_law_text"] (spF K fm_w_parts) :=
  fn_okS T.F_w_parts sc_w_parts fun cdv A outer s H E hr => (show VSs _ _ m_w_parts from (vs_cons (vs_par (i := 1) (j := 2) sc_w_parts.nd (vau_cons (ve_plst va_nil) (vau_cons ve_str vau_nil)))
      (vs_cons (vs_bef (ws := [3]) (vs_for PassesOwn.never (vi_str (ve_name 0)) (vg_name (j := 3) sc_w_parts.nd) (vs_aft (ws := [3]) (vs_one (vs_if (vt_cmp op_inS od_ins (ve_name 3) ve_str (by rfl)) (vs_one (vs_set (i := 2) sc_w_parts.nd (ve_frz (ve_op or_add od_add (ve_name 2) (ve_name 3))))) (vs_one (vs_if (vt_cmp (or_ne hr.units) od_ne (ve_name 2) ve_str (nomark _)) (vs_cons (vs_expr (ve_pm PySem.F.slot_list_append PySem.F.type_list_append mt_append pm_app (ve_name 1) (va_cons (ve_tup (va_cons (ve_frz (ve_name 2)) (va_cons (ve_frz (ve_name 3)) va_nil))) va_nil)))
      (vs_one (vs_set (i := 2) sc_w_parts.nd (ve_frz ve_str)))) (vs_one (vs_retW (ve_in ve_non))))))))))
      (vs_one (vs_retW (ve_if (vt_lendK (vt_w (vw_and (vt_cmp (or_eq hr.units) od_eq (ve_name 2) ve_str (nomark _)) (vw_and1 (vt_cmp (or_ne hr.units) od_ne (ve_tyE (ve_kn (ve_name 1))) (ve_lst va_nil) (nomark _)))))) (ve_name 1) (ve_in ve_non)))))))
def fmM_w_parts : FMM := fmM 1 5 m_w_parts
theorem okM_w_parts (T : Tx w K mg fd) : FnOk P w K mg base CX0 1 (He.ga K "_law_parts") (fd 5) ["_law_text"] (spM K fmM_w_parts) :=
  fnM_ok T.F_w_parts sc_w_parts (by decide) fun cdv A outer s H E hr => (show VSs _ _ m_w_parts from (vs_cons (vs_par (i := 1) (j := 2) sc_w_parts.nd (vau_cons (ve_plst va_nil) (vau_cons ve_str vau_nil)))
      (vs_cons (vs_bef (ws := [3]) (vs_for PassesOwn.never (vi_str (ve_name 0)) (vg_name (j := 3) sc_w_parts.nd) (vs_aft (ws := [3]) (vs_one (vs_if (vt_cmp op_inS od_ins (ve_name 3) ve_str (by rfl)) (vs_one (vs_set (i := 2) sc_w_parts.nd (ve_frz (ve_op or_add od_add (ve_name 2) (ve_name 3))))) (vs_one (vs_if (vt_cmp (or_ne hr.units) od_ne (ve_name 2) ve_str (nomark _)) (vs_cons (vs_expr (ve_pm PySem.F.slot_list_append PySem.F.type_list_append mt_append pm_app (ve_name 1) (va_cons (ve_tup (va_cons (ve_frz (ve_name 2)) (va_cons (ve_frz (ve_name 3)) va_nil))) va_nil)))
      (vs_one (vs_set (i := 2) sc_w_parts.nd (ve_frz ve_str)))) (vs_one (vs_retW (ve_in ve_non))))))))))
      (vs_one (vs_retW (ve_if (vt_lendK (vt_w (vw_and (vt_cmp (or_eq hr.units) od_eq (ve_name 2) ve_str (nomark _)) (vw_and1 (vt_cmp (or_ne hr.units) od_ne (ve_tyE (ve_kn (ve_name 1))) (ve_lst va_nil) (nomark _)))))) (ve_name 1) (ve_in ve_non)))))))
def P_w_parts (text : Str) (M0 : List MC) : Option (PV × List MC) :=
  (some (M0 ++ [.lst []])).bind fun M1 =>
  (forR (P_w_parts_b2 ) (signs text) ((PV.ref M0.length), ("" : Str), M1)).bind fun w7 => w7.on (fun z => some z) fun s6 =>
    (if decide (s6.2.1 = ("" : Str)) = true then
      (PV.deep s6.2.2 9 s6.1).bind fun d10 =>
      ((decL (decT2 decS decS)).f d10).bind fun v11 =>
      (pEq (eL (eT2 eS eS)) true v11 ([] : (List (Str × Str)))).bind fun t12 =>
      some t12
    else
      some false).bind fun z13 =>
    (if z13 = true then
      some (s6.1, s6.2.2)
    else
      some ((PV.dat (eU ())), s6.2.2)).bind fun z14 =>
    some (z14.1, z14.2)
theorem b_w_parts (text : Str) (M0 : List MC) : m_w_parts [.val (eS text), .no, .no, .no, .sto M0] = (P_w_parts text M0).map fun z : (PV × List MC) => (Fl.rt (.pv z.1), ([.no, .no, .no, .no, .sto z.2] : Sl)) := by
  unfold m_w_parts P_w_parts
  refine c_map (out := fun z : (PV × List MC) => (Fl.rt (.pv z.1), ([.no, .no, .no, .no, .sto z.2] : Sl))) ?_
  walk_at "~seq putU consU plst nil"
  refine c_plstK (ps := []) M0 (fun M1 => [.val (eS text), .no, .no, .no, .sto M1]) rfl rfl (Nat.le_of_ble_eq_true rfl) (fun _ => rfl) fun M1 => ?_
  walk_at "~frzSP consU c frzSD nil"
  refine c_putUK [.val (eS text), .pv (PV.ref M0.length), .val (eS ("" : Str)), .no, .sto M1] rfl ?_
  walk_at "~seqN seq"
  refine c_bef (e2 := [.val (eS text), .pv (PV.ref M0.length), .val (eS ("" : Str)), .no, .sto M1]) rfl ?_
  walk_at "~for itS nameV:1 itSK"
  refine c_loopR (E := fun sE : (PV × Str × (List MC)) => [.val (eS text), .pv sE.1, .val (eS sE.2.1), .no, .sto sE.2.2]) (oR := fun z : (PV × List MC) => .pv z.1) (eR := fun z => [.no, .no, .no, .no, .sto z.2]) (forL_R (E := fun sE : (PV × Str × (List MC)) => [.val (eS text), .pv sE.1, .val (eS sE.2.1), .no, .sto sE.2.2]) (oR := fun z : (PV × List MC) => .pv z.1) (eR := fun z => [.no, .no, .no, .no, .sto z.2]) (ec := eS) (s_w_parts_b2 (.val (eS text))) _ ((PV.ref M0.length), ("" : Str), M1)) (fun z => ?_) (fun s6 => ?_)
  · refine c_seqR ?_
    exact rfl
  · refine c_seqN ?_
    walk_at "~ret if"
    refine c_lendXT (M := s6.2.2) rfl fun L8 hl9 => ?_
    refine c_lendX2 (e2 := [.val (eS text), .pv s6.1, .val (eS s6.2.1), .no, .sto L8]) rfl ?_
    walk_at "~andB test op nameV:1 c opK:2"
    refine c_pur x_eqS0 ?_
    walk_at "~testK"
    refine c_ifJ (fun z13 => (z13, [.val (eS text), .pv s6.1, .val (eS s6.2.1), .no, .sto L8])) ?_ ?_ fun z13 => ?_
    · refine c_test ?_
      walk_at "~op tyE kn nameP:1"
      refine c_knL hl9 rfl rfl fun d10 => ?_
      refine c_tyEK (decL (decT2 decS decS)) fun v11 => ?_
      walk_at "~lst nil"
      refine c_lstK (([] : List Int).map eI) rfl (Nat.le_of_ble_eq_true rfl) ?_
      walk_at "~opK:2"
      refine c_cal (x_eqE (x := v11) (y := ([] : (List (Str × Str)))) (eqE_list (eqE_t2 eqE_str eqE_str)) rfl) fun t12 => ?_
      walk_at "~testK"
      exact rfl
    · exact rfl
    refine c_ifJ (fun z14 : PV × List MC => (.pv z14.1, [.val (eS text), .pv s6.1, .val (eS s6.2.1), .no, .sto z14.2])) ?_ ?_ fun z14 => ?_
    · refine c_nameP rfl ?_
      exact rfl
    · refine c_in ?_
      walk_at "~c inD"
      exact rfl
    refine c_retK (.pv z14.1) rfl (e2 := [.no, .no, .no, .no, .sto z14.2]) rfl ?_
    exact rfl
theorem q_w_parts (text : Str) (M0 : List MC) : fmM_w_parts M0 [.val (eS text)] = (P_w_parts text M0).map fun z => (.pv z.1, [.no], z.2) := fmM_ofG (b_w_parts text M0) (fun _ => rfl) rfl rfl (fun _ => by walk_at "ik") (fun _ => rfl) (fun _ => rfl)
def PS_w_parts (text : Str) : Option PyData := (P_w_parts text []).bind fun z => z.1.deep z.2 9
theorem qS_w_parts (text : Str) : fm_w_parts [.val (eS text)] = (PS_w_parts text).map fun d => (.dat (eD d), [.no]) := fmSt_of (b_w_parts text []) rfl rfl (fun _ => rfl) (fun _ => rfl) (fun _ => rfl)
def m_w_spoilt_e1 : ME := (mOp gAdd (mName 11) (mName 12))
def P_w_spoilt_l2 (box : (List Int)) (text : Str) (signs : Str) (way : Int) (at_ : Int) (sign : Str) (parts : PV) (place : Int) (figures : Str) (letter : Str) (some_ : (List Str)) (y58 : (Str × Str)) : Option Str :=
  (pCatS y58.1 y58.2).bind fun t59 =>
  some t59
theorem s_w_spoilt_l2 (box : (List Int)) (text : Str) (signs : Str) (way : Int) (at_ : Int) (sign : Str) (parts : PV) (place : Int) (figures : Str) (letter : Str) (some_ : (List Str)) (o13 : Slot) (y58 : (Str × Str)) : lcStep (mgTup (mgCons (mgName 11) (mgCons (mgName 12) mgNil))) mYes m_w_spoilt_e1 [11, 12] ((eT2 eS eS) y58) [.val ((eL eI) box), .val (eS text), .val (eS signs), .val (eI way), .val (eI at_), .val (eS sign), .pv parts, .val (eI place), .val (eS figures), .val (eS letter), .val ((eL eS) some_), .no, .no, o13] = (P_w_spoilt_l2 box text signs way at_ sign parts place figures letter some_ y58).map fun z => (some (eS z), [.val ((eL eI) box), .val (eS text), .val (eS signs), .val (eI way), .val (eI at_), .val (eS sign), .pv parts, .val (eI place), .val (eS figures), .val (eS letter), .val ((eL eS) some_), .no, .no, o13]) := c_stepM (α := Unit) (by
  unfold P_w_spoilt_l2
  walk_at "~gtup gcons"
  refine c_gname (e2 := [.val ((eL eI) box), .val (eS text), .val (eS signs), .val (eI way), .val (eI at_), .val (eS sign), .pv parts, .val (eI place), .val (eS figures), .val (eS letter), .val ((eL eS) some_), .val (eS y58.1), .no, o13]) rfl ?_
  walk_at "~gcons"
  refine c_gname (e2 := [.val ((eL eI) box), .val (eS text), .val (eS signs), .val (eI way), .val (eI at_), .val (eS sign), .pv parts, .val (eI place), .val (eS figures), .val (eS letter), .val ((eL eS) some_), .val (eS y58.1), .val (eS y58.2), o13]) rfl ?_
  walk_at "~gnil yes iteT bb op nameV:1 nameV:1 opK:2"
  refine c_cal x_catS fun t59 => ?_
  walk_at "~frzD"
  refine c_elt (e1 := [.val ((eL eI) box), .val (eS text), .val (eS signs), .val (eI way), .val (eI at_), .val (eS sign), .pv parts, .val (eI place), .val (eS figures), .val (eS letter), .val ((eL eS) some_), .no, .no, o13]) rfl ?_
  exact rfl)
def m_w_spoilt : MS := (mSeq (mSet 2 (mFrz (mC (.str " !\"#$&'()*+,-./0123456789:;<=>?@ABCDEFGHIJKLMNOPQRSTUVWXYZ[\\]^_`abcdefghijklmnopqrstuvwxyz{|}~"))))
    (mSeq (mPutU [3, 4] (mConsU (mFrz (mCallF fm_w_take (some 0) (mCons (mName 0) (mCons (mC (.int 8)) mNil)))) (mConsU (mFrz (mCallF fm_w_take (some 0) (mCons (mName 0) (mCons (mOp gAdd (mCB gLen (mCons (mName 1) mNil)) (mC (.int 1))) mNil)))) mNil)))
    (mSeq (mSet 5 (mFrz (mOp gIx (mLst (mCons (mFrz (mOp gIx (mName 2) (mCallF fm_w_take (some 0) (mCons (mName 0) (mCons (mCB gLen (mCons (mName 2) mNil)) mNil))))) (mCons (mFrz (mOp gIx (mC (.str "0123456789cspmfr ")) (mCallF fm_w_take (some 0) (mCons (mName 0) (mCons (mC (.int 17)) mNil))))) mNil))) (mCallF fm_w_take (some 0) (mCons (mName 0) (mCons (mC (.int 2)) mNil))))))
    (mSeq (mIfS (mTest (mOp (gCmp fun i j => decide (i < j)) (mName 3) (mC (.int 4)))) (mSeq (mSet 10 (mFrz (mLst (mCons (mFrz (mOp gAdd (mOp gAdd (mSl gSlS (mName 1) mNoPart (mPart (mName 4))) (mName 5)) (mSl gSlS (mName 1) (mPart (mName 4)) mNoPart))) (mCons (mFrz (mOp gAdd (mSl gSlS (mName 1) mNoPart (mPart (mName 4))) (mSl gSlS (mName 1) (mPart (mOp gAdd (mName 4) (mC (.int 1)))) mNoPart))) (mCons (mFrz (mOp gAdd (mOp gAdd (mSl gSlS (mName 1) mNoPart (mPart (mName 4))) (mName 5)) (mSl gSlS (mName 1) (mPart (mOp gAdd (mName 4) (mC (.int 1)))) mNoPart))) mNil))))))
    (mRetW [1, 2, 3, 4, 5, 6, 7, 8, 9, 10, 11, 12, 13] (mOp gIx (mOp gAdd (mName 10) (mLst (mCons (mFrz (mOp gAdd (mSl gSlS (mName 1) mNoPart (mPart (mName 4))) (mSl gSlS (mName 1) (mPart (mCB (gInt2 fun i j => if j > i then j else i) (mCons (mC (.int 0)) (mCons (mOp gMinus (mName 4) (mC (.int 1))) mNil)))) mNoPart))) mNil))) (mName 3)))) mSkip)
    (mSeq (mSet 6 (mCallM fmM_w_parts none (mCons (mFrz (mName 1)) mNil)))
    (mSeq (mIfS (mLendKT (mTest (mIsNP false (mName 6)))) (mRetW [1, 2, 3, 4, 5, 6, 7, 8, 9, 10, 11, 12, 13] (mOp gAdd (mName 1) (mName 5))) mSkip)
    (mSeq (mSet 7 (mFrz (mCallF fm_w_take (some 0) (mCons (mName 0) (mCons (mLendK none (mCB gLen (mCons (mTyE (fun d => ((decL (decT2 decS decS)).f d).isSome) (mKn (mName 6))) mNil))) mNil)))))
    (mSeq (mAsg (mTyE (fun d => ((decT2 decS decS).f d).isSome) (mDat (mPix (mName 6) (mName 7)))) (mgTup (mgCons (mgName 8) (mgCons (mgName 9) mgNil))))
    (mSeq (mSet 10 (mFrz (mLst (mCons (mFrz (mC (.str "0"))) (mCons (mFrz (mOp gAdd (mC (.str "0")) (mName 8))) (mCons (mFrz (mC (.str "8"))) (mCons (mFrz (mC (.str "14"))) (mCons (mFrz (mC (.str "40"))) (mCons (mFrz (mC (.str "999999999"))) (mCons (mFrz (mC (.str "1000000000"))) mNil))))))))))
    (mSeq (mPsetL (mFrz (mIf (mTest (mOp (gCmp fun i j => decide (i < j)) (mName 3) (mC (.int 6)))) (mTup (mCons (mFrz (mOp gIx (mName 10) (mCallF fm_w_take (some 0) (mCons (mName 0) (mCons (mC (.int 7)) mNil))))) (mCons (mFrz (mName 9)) mNil))) (mTup (mCons (mFrz (mName 8)) (mCons (mFrz (mOp gIx (mC (.str "cspmfr")) (mCallF fm_w_take (some 0) (mCons (mName 0) (mCons (mC (.int 6)) mNil))))) mNil))))) (mName 6) (mName 7))
    (mSeq (mIfS (mTest (mOp (gEq false) (mName 3) (mC (.int 7)))) (mAft [] (mAsgP (mPtup (mCons (mPix (mName 6) (mC (.int 0))) (mCons (mPix (mName 6) (mName 7)) mNil))) (mgpTup (mgpCons (mgPL (mName 6) (mName 7)) (mgpCons (mgPL (mName 6) (mC (.int 0))) mgpNil))))) (mAft [] mSkip))
    (mRetW [1, 2, 3, 4, 5, 6, 7, 8, 9, 10, 11, 12, 13] (mLendK none (mBM "str" gJoin (mC (.str "")) (mCons (mLc (mItL (mTyE (fun d => ((decL (decT2 decS decS)).f d).isSome) (mKn (mName 6)))) (mgTup (mgCons (mgName 11) (mgCons (mgName 12) mgNil))) mYes m_w_spoilt_e1 [11, 12]) mNil)))))))))))))))
def fm_w_spoilt : FM := fmSt 2 14 m_w_spoilt
theorem ok_w_spoilt (T : Tx w K mg fd) : FnOk P w K mg base CX0 2 (He.ga K "_law_spoilt") (fd 6) ["_law_box_here", "_law_text"] (spF K fm_w_spoilt) :=
  fn_okS T.F_w_spoilt sc_w_spoilt fun cdv A outer s H E hr => (show VSs _ _ m_w_spoilt from (vs_cons (vs_set (i := 2) sc_w_spoilt.nd (ve_frz ve_str))
      (vs_cons (vs_par (i := 3) (j := 4) sc_w_spoilt.nd (vau_cons (ve_frz (ve_callF (some 0) (FnOk.mono (ok_w_take T) (by decide)) hr T.g_w_take T.F_w_take.kp (bi_w_take T) (va_cons (ve_name 0) (va_cons ve_int va_nil)))) (vau_cons (ve_frz (ve_callF (some 0) (FnOk.mono (ok_w_take T) (by decide)) hr T.g_w_take T.F_w_take.kp (bi_w_take T) (va_cons (ve_name 0) (va_cons (ve_op or_add od_add (ve_callB call_len cd_len (by rfl) T.b_len PySem.boot_len (va_cons (ve_name 1) va_nil)) ve_int) va_nil)))) vau_nil)))
      (vs_cons (vs_set (i := 5) sc_w_spoilt.nd (ve_frz (ve_ix ix_seq od_ix (ve_lst (va_cons (ve_frz (ve_ix ix_seq od_ix (ve_name 2) (ve_callF (some 0) (FnOk.mono (ok_w_take T) (by decide)) hr T.g_w_take T.F_w_take.kp (bi_w_take T) (va_cons (ve_name 0) (va_cons (ve_callB call_len cd_len (by rfl) T.b_len PySem.boot_len (va_cons (ve_name 2) va_nil)) va_nil))) (fun _ _ => rfl))) (va_cons (ve_frz (ve_ix ix_seq od_ix ve_str (ve_callF (some 0) (FnOk.mono (ok_w_take T) (by decide)) hr T.g_w_take T.F_w_take.kp (bi_w_take T) (va_cons (ve_name 0) (va_cons ve_int va_nil))) (fun _ _ => rfl))) va_nil))) (ve_callF (some 0) (FnOk.mono (ok_w_take T) (by decide)) hr T.g_w_take T.F_w_take.kp (bi_w_take T) (va_cons (ve_name 0) (va_cons ve_int va_nil))) (fun _ _ => rfl))))
      (vs_cons (vs_if (vt_cmp op_lt (od_cmp (p := fun i j => decide (i < j))) (ve_name 3) ve_int (nomark _)) (vs_cons (vs_set (i := 10) sc_w_spoilt.nd (ve_frz (ve_lst (va_cons (ve_frz (ve_op or_add od_add (ve_op or_add od_add (ve_slice sl_str sd_str (ve_name 1) vo_none (vo_some (ve_name 4))) (ve_name 5)) (ve_slice sl_str sd_str (ve_name 1) (vo_some (ve_name 4)) vo_none))) (va_cons (ve_frz (ve_op or_add od_add (ve_slice sl_str sd_str (ve_name 1) vo_none (vo_some (ve_name 4))) (ve_slice sl_str sd_str (ve_name 1) (vo_some (ve_op or_add od_add (ve_name 4) ve_int)) vo_none))) (va_cons (ve_frz (ve_op or_add od_add (ve_op or_add od_add (ve_slice sl_str sd_str (ve_name 1) vo_none (vo_some (ve_name 4))) (ve_name 5)) (ve_slice sl_str sd_str (ve_name 1) (vo_some (ve_op or_add od_add (ve_name 4) ve_int)) vo_none))) va_nil))))))
      (vs_one (vs_retW (ve_ix ix_seq od_ix (ve_op or_add od_add (ve_name 10) (ve_lst (va_cons (ve_frz (ve_op or_add od_add (ve_slice sl_str sd_str (ve_name 1) vo_none (vo_some (ve_name 4))) (ve_slice sl_str sd_str (ve_name 1) (vo_some (ve_callB (call_max2 rfl) (cd_int2 (f := fun i j => if j > i then j else i)) (by rfl) T.b_max (by decide +kernel) (va_cons ve_int (va_cons (ve_op op_sub od_sub (ve_name 4) ve_int) va_nil)))) vo_none))) va_nil))) (ve_name 3) (fun _ _ => rfl))))) vs_nil)
      (vs_cons (vs_set (i := 6) sc_w_spoilt.nd (ve_callM none (FnOk.mono (okM_w_parts T) (by decide)) hr T.g_w_parts T.F_w_parts.kp (bi_w_parts T) (va_cons (ve_frz (ve_name 1)) va_nil)))
      (vs_cons (vs_if (vt_lendK (vt_isNP (ve_name 6))) (vs_one (vs_retW (ve_op or_add od_add (ve_name 1) (ve_name 5)))) vs_nil)
      (vs_cons (vs_set (i := 7) sc_w_spoilt.nd (ve_frz (ve_callF (some 0) (FnOk.mono (ok_w_take T) (by decide)) hr T.g_w_take T.F_w_take.kp (bi_w_take T) (va_cons (ve_name 0) (va_cons (ve_lendK (ve_callB call_len cd_len (by rfl) T.b_len PySem.boot_len (va_cons (ve_tyE (ve_kn (ve_name 6))) va_nil))) va_nil)))))
      (vs_cons (vs_asg (ve_tyE (ve_dat (ve_pix (ve_name 6) (ve_name 7) (fun _ _ => rfl)))) (vg_tup (vgs_cons (vg_name (j := 8) sc_w_spoilt.nd) (vgs_cons (vg_name (j := 9) sc_w_spoilt.nd) vgs_nil)) (mgcons_len (mgcons_len mgnil_len))))
      (vs_cons (vs_set (i := 10) sc_w_spoilt.nd (ve_frz (ve_lst (va_cons (ve_frz ve_str) (va_cons (ve_frz (ve_op or_add od_add ve_str (ve_name 8))) (va_cons (ve_frz ve_str) (va_cons (ve_frz ve_str) (va_cons (ve_frz ve_str) (va_cons (ve_frz ve_str) (va_cons (ve_frz ve_str) va_nil))))))))))
      (vs_cons (vs_psetL (ve_frz (ve_if (vt_cmp op_lt (od_cmp (p := fun i j => decide (i < j))) (ve_name 3) ve_int (nomark _)) (ve_tup (va_cons (ve_frz (ve_ix ix_seq od_ix (ve_name 10) (ve_callF (some 0) (FnOk.mono (ok_w_take T) (by decide)) hr T.g_w_take T.F_w_take.kp (bi_w_take T) (va_cons (ve_name 0) (va_cons ve_int va_nil))) (fun _ _ => rfl))) (va_cons (ve_frz (ve_name 9)) va_nil))) (ve_tup (va_cons (ve_frz (ve_name 8)) (va_cons (ve_frz (ve_ix ix_seq od_ix ve_str (ve_callF (some 0) (FnOk.mono (ok_w_take T) (by decide)) hr T.g_w_take T.F_w_take.kp (bi_w_take T) (va_cons (ve_name 0) (va_cons ve_int va_nil))) (fun _ _ => rfl))) va_nil))))) (ve_name 6) (ve_name 7))
      (vs_cons (vs_if (vt_cmp (or_eq hr.units) od_eq (ve_name 3) ve_int (nomark _)) (vs_aft (ws := []) (vs_one (vs_asgP (ve_ptup (va_cons (ve_pix (ve_name 6) ve_int (fun _ _ => rfl)) (va_cons (ve_pix (ve_name 6) (ve_name 7) (fun _ _ => rfl)) va_nil))) (vgp_tup (vgps_cons (vgP_putL (ve_name 6) (ve_name 7)) (vgps_cons (vgP_putL (ve_name 6) ve_int) vgps_nil)) (mgpcons_len (mgpcons_len mgpnil_len)))))) (vs_aft (ws := []) vs_nil))
      (vs_one (vs_retW (ve_lendK (ve_bm PySem.F.plainAttrs_str PySem.F.slot_str_join PySem.F.type_str_join mt_join mtd_join ve_str (va_cons (ve_lc (own := [("_law_one", 11), ("_law_other", 12)]) sc_w_spoilt.nd (vi_list (ve_tyE (ve_kn (ve_name 6)))) (blkOk_by (own := [("_law_one", 11), ("_law_other", 12)]) (N := ["_law_box_here", "_law_text", "_law_signs", "_law_way", "_law_at", "_law_sign", "_law_parts_here", "_law_place", "_law_figures", "_law_letter", "_law_some", "_law_one", "_law_other", "@"]) (sc := defScope s_w_spoilt) (by decide +kernel)) (fun _ _ _ _ _ => (vg_tup (vgs_cons (vg_name (j := 11) sc_w_spoilt.nd) (vgs_cons (vg_name (j := 12) sc_w_spoilt.nd) vgs_nil)) (mgcons_len (mgcons_len mgnil_len)))) (fun _ _ _ _ _ => vts_nil) (fun _ _ _ _ _ => (ve_op or_add od_add (ve_name 11) (ve_name 12))) (by decide)) va_nil)))))))))))))))))
def P_w_spoilt (box : (List Int)) (text : Str) : Option (Str × (List Int)) :=
  (some (" !\"#$&'()*+,-./0123456789:;<=>?@ABCDEFGHIJKLMNOPQRSTUVWXYZ[\\]^_`abcdefghijklmnopqrstuvwxyz{|}~" : Str)).bind fun signs1 =>
  (P_w_take box 8).bind fun r2 =>
  (pLenS text).bind fun t3 =>
  (P_w_take r2.2 (t3 + 1)).bind fun r4 =>
  (pLenS signs1).bind fun t5 =>
  (P_w_take r4.2 t5).bind fun r6 =>
  (pIxS signs1 r6.1).bind fun t7 =>
  (P_w_take r6.2 17).bind fun r8 =>
  (pIxS ("0123456789cspmfr " : Str) r8.1).bind fun t9 =>
  (P_w_take r8.2 2).bind fun r10 =>
  (pIx [t7, t9] r10.1).bind fun t11 =>
  if decide (r2.1 < 4) = true then
    (pSlS text none (some r4.1)).bind fun t12 =>
    (pCatS t12 t11).bind fun t13 =>
    (pSlS text (some r4.1) none).bind fun t14 =>
    (pCatS t13 t14).bind fun t15 =>
    (pSlS text none (some r4.1)).bind fun t16 =>
    (pSlS text (some (r4.1 + 1)) none).bind fun t17 =>
    (pCatS t16 t17).bind fun t18 =>
    (pSlS text none (some r4.1)).bind fun t19 =>
    (pCatS t19 t11).bind fun t20 =>
    (pSlS text (some (r4.1 + 1)) none).bind fun t21 =>
    (pCatS t20 t21).bind fun t22 =>
    (some [t15, t18, t22]).bind fun some_23 =>
    (pSlS text none (some r4.1)).bind fun t24 =>
    (pSlS text (some (maxI 0 (r4.1 - 1))) none).bind fun t25 =>
    (pCatS t24 t25).bind fun t26 =>
    (pCat some_23 [t26]).bind fun t27 =>
    (pIx t27 r2.1).bind fun t28 =>
    some (t28, r10.2)
  else
    (P_w_parts text ([] : List MC)).bind fun r29 =>
    if (PV.isN r29.1) = true then
      (pCatS text t11).bind fun t32 =>
      some (t32, r10.2)
    else
      (PV.deep r29.2 9 r29.1).bind fun d35 =>
      ((decL (decT2 decS decS)).f d35).bind fun v36 =>
      (P_w_take r10.2 (v36.length : Int)).bind fun r37 =>
      (PV.ix r29.2 r29.1 r37.1).bind fun p38 =>
      (PV.asD p38).bind fun d39 =>
      ((decT2 decS decS).f d39).bind fun v40 =>
      (pCatS ("0" : Str) v40.1).bind fun t41 =>
      (some [("0" : Str), t41, ("8" : Str), ("14" : Str), ("40" : Str), ("999999999" : Str), ("1000000000" : Str)]).bind fun some_42 =>
      (if decide (r2.1 < 6) = true then
        (P_w_take r37.2 7).bind fun r43 =>
        (pIx some_42 r43.1).bind fun t44 =>
        some ((t44, v40.2), r43.2)
      else
        (P_w_take r37.2 6).bind fun r45 =>
        (pIxS ("cspmfr" : Str) r45.1).bind fun t46 =>
        some ((v40.1, t46), r45.2)).bind fun z47 =>
      ((asI (eI r37.1)).bind fun i => setLP r29.2 r29.1 i (PV.dat ((eT2 eS eS) z47.1))).bind fun M48 =>
      (if decide (r2.1 = 7) = true then
        (PV.ix M48 r29.1 0).bind fun p50 =>
        (PV.ix M48 r29.1 r37.1).bind fun p51 =>
        (setLP M48 r29.1 r37.1 p50).bind fun M52 =>
        (setLP M52 r29.1 0 p51).bind fun M53 =>
        some (r29.1, M53)
      else
        some (r29.1, M48)).bind fun z49 =>
      (PV.deep z49.2 9 z49.1).bind fun d56 =>
      ((decL (decT2 decS decS)).f d56).bind fun v57 =>
      (gd (v57.length ≤ 100000)).bind fun _ =>
      (mapO (P_w_spoilt_l2 z47.2 text signs1 r2.1 r4.1 t11 z49.1 r37.1 v40.1 v40.2 some_42) v57).bind fun l60 =>
      (pJoin ("" : Str) l60).bind fun t61 =>
      some (t61, z47.2)
theorem q_w_spoilt (box : (List Int)) (text : Str) : fm_w_spoilt [.io 0 (.lst (box.map eI)), .val (eS text)] = (P_w_spoilt box text).map fun z => (.dat (eS z.1), [.io 0 (.lst (z.2.map eI)), .no]) := by
  unfold fm_w_spoilt m_w_spoilt P_w_spoilt
  refine c_fmSt (oR := fun z : (Str × (List Int)) => .dat (eS z.1)) (eR := fun z => [.io 0 (.lst (z.2.map eI)), .no, .no, .no, .no, .no, .no, .no, .no, .no, .no, .no, .no, .no]) [.io 0 (.lst (box.map eI)), .val (eS text), .no, .no, .no, .no, .no, .no, .no, .no, .no, .no, .no, .sto ([] : List MC)] rfl rfl ?_ (fun _ => rfl) (fun _ => by walk_at "ik") (fun _ => rfl)
  walk_at "~seq set frz c frzD"
  refine c_setDL (τ := Str) eS (" !\"#$&'()*+,-./0123456789:;<=>?@ABCDEFGHIJKLMNOPQRSTUVWXYZ[\\]^_`abcdefghijklmnopqrstuvwxyz{|}~" : Str) (fun signs1 => [.io 0 (.lst (box.map eI)), .val (eS text), .val (eS signs1), .no, .no, .no, .no, .no, .no, .no, .no, .no, .no, .sto ([] : List MC)]) (fun _ => rfl) fun signs1 => ?_
  walk_at "~seqN seq putU consU frz callF cons nameI:1 cons c nil"
  refine c_callK (bk := fun r2 => [.io 0 (.lst (r2.2.map eI)), .val (eS text), .val (eS signs1), .no, .no, .no, .no, .no, .no, .no, .no, .no, .no, .sto ([] : List MC)]) rfl rfl (q_w_take box 8) (fun _ => by walk_at "fl") (fun _ => rfl) fun r2 => ?_
  walk_at "~frzD frzSD consU frz callF cons nameI:1 cons op cb cons nameV:1 nil"
  refine c_cbK _ rfl ?_
  refine c_cal x_lenS fun t3 => ?_
  walk_at "~c opK:2"
  refine c_pur x_add ?_
  walk_at "~nil"
  refine c_callK (bk := fun r4 => [.io 0 (.lst (r4.2.map eI)), .val (eS text), .val (eS signs1), .no, .no, .no, .no, .no, .no, .no, .no, .no, .no, .sto ([] : List MC)]) rfl rfl (q_w_take r2.2 (t3 + 1)) (fun _ => by walk_at "fl") (fun _ => rfl) fun r4 => ?_
  walk_at "~frzD frzSD nil"
  refine c_putUK [.io 0 (.lst (r4.2.map eI)), .val (eS text), .val (eS signs1), .val (eI r2.1), .val (eI r4.1), .no, .no, .no, .no, .no, .no, .no, .no, .sto ([] : List MC)] rfl ?_
  walk_at "~seqN seq set frz op lst cons frz op nameV:1 callF cons nameI:1 cons cb cons nameV:1 nil"
  refine c_cbK _ rfl ?_
  refine c_cal x_lenS fun t5 => ?_
  walk_at "~nil"
  refine c_callK (bk := fun r6 => [.io 0 (.lst (r6.2.map eI)), .val (eS text), .val (eS signs1), .val (eI r2.1), .val (eI r4.1), .no, .no, .no, .no, .no, .no, .no, .no, .sto ([] : List MC)]) rfl rfl (q_w_take r4.2 t5) (fun _ => by walk_at "fl") (fun _ => rfl) fun r6 => ?_
  walk_at "~opK:2"
  refine c_cal x_ixS fun t7 => ?_
  walk_at "~frzD cons frz op c callF cons nameI:1 cons c nil"
  refine c_callK (bk := fun r8 => [.io 0 (.lst (r8.2.map eI)), .val (eS text), .val (eS signs1), .val (eI r2.1), .val (eI r4.1), .no, .no, .no, .no, .no, .no, .no, .no, .sto ([] : List MC)]) rfl rfl (q_w_take r6.2 17) (fun _ => by walk_at "fl") (fun _ => rfl) fun r8 => ?_
  walk_at "~opK:2"
  refine c_cal x_ixS fun t9 => ?_
  walk_at "~frzD nil"
  refine c_lstK ([t7, t9].map eS) rfl (Nat.le_of_ble_eq_true rfl) ?_
  walk_at "~callF cons nameI:1 cons c nil"
  refine c_callK (bk := fun r10 => [.io 0 (.lst (r10.2.map eI)), .val (eS text), .val (eS signs1), .val (eI r2.1), .val (eI r4.1), .no, .no, .no, .no, .no, .no, .no, .no, .sto ([] : List MC)]) rfl rfl (q_w_take r8.2 2) (fun _ => by walk_at "fl") (fun _ => rfl) fun r10 => ?_
  walk_at "~opK:2"
  refine c_cal (x_ix (e := eS) (l := [t7, t9])) fun t11 => ?_
  walk_at "~frzD"
  refine c_setD (e2 := [.io 0 (.lst (r10.2.map eI)), .val (eS text), .val (eS signs1), .val (eI r2.1), .val (eI r4.1), .val (eS t11), .no, .no, .no, .no, .no, .no, .no, .sto ([] : List MC)]) rfl ?_
  walk_at "~seqN seq ifS test op nameV:1 c opK:2"
  refine c_pur x_cmp ?_
  walk_at "~testK"
  refine c_ite ?_ ?_
  · refine c_seq ?_
    walk_at "~set frz lst cons frz op op sl nameV:1 noPart part nameV:1 partK"
    refine c_slK _ rfl ?_
    refine c_cal x_slS fun t12 => ?_
    walk_at "~nameV:1 opK:2"
    refine c_cal x_catS fun t13 => ?_
    walk_at "~sl nameV:1 part nameV:1 partK noPart"
    refine c_slK _ rfl ?_
    refine c_cal x_slS fun t14 => ?_
    walk_at "~opK:2"
    refine c_cal x_catS fun t15 => ?_
    walk_at "~frzD cons frz op sl nameV:1 noPart part nameV:1 partK"
    refine c_slK _ rfl ?_
    refine c_cal x_slS fun t16 => ?_
    walk_at "~sl nameV:1 part op nameV:1 c opK:2"
    refine c_pur x_add ?_
    walk_at "~partK noPart"
    refine c_slK _ rfl ?_
    refine c_cal x_slS fun t17 => ?_
    walk_at "~opK:2"
    refine c_cal x_catS fun t18 => ?_
    walk_at "~frzD cons frz op op sl nameV:1 noPart part nameV:1 partK"
    refine c_slK _ rfl ?_
    refine c_cal x_slS fun t19 => ?_
    walk_at "~nameV:1 opK:2"
    refine c_cal x_catS fun t20 => ?_
    walk_at "~sl nameV:1 part op nameV:1 c opK:2"
    refine c_pur x_add ?_
    walk_at "~partK noPart"
    refine c_slK _ rfl ?_
    refine c_cal x_slS fun t21 => ?_
    walk_at "~opK:2"
    refine c_cal x_catS fun t22 => ?_
    walk_at "~frzD nil"
    refine c_lstK ([t15, t18, t22].map eS) rfl (Nat.le_of_ble_eq_true rfl) ?_
    walk_at "~frzN"
    refine c_setDL (τ := (List Str)) (eL eS) [t15, t18, t22] (fun some_23 => [.io 0 (.lst (r10.2.map eI)), .val (eS text), .val (eS signs1), .val (eI r2.1), .val (eI r4.1), .val (eS t11), .no, .no, .no, .no, .val ((eL eS) some_23), .no, .no, .sto ([] : List MC)]) (fun _ => rfl) fun some_23 => ?_
    walk_at "~seqN ret op op nameV:1 lst cons frz op sl nameV:1 noPart part nameV:1 partK"
    refine c_slK _ rfl ?_
    refine c_cal x_slS fun t24 => ?_
    walk_at "~sl nameV:1 part cb cons c cons op nameV:1 c opK:2"
    refine c_pur x_sub ?_
    walk_at "~nil"
    refine c_cbK _ rfl ?_
    refine c_pur x_int2 ?_
    walk_at "~partK noPart"
    refine c_slK _ rfl ?_
    refine c_cal x_slS fun t25 => ?_
    walk_at "~opK:2"
    refine c_cal x_catS fun t26 => ?_
    walk_at "~frzD nil"
    refine c_lstK ([t26].map eS) rfl (Nat.le_of_ble_eq_true rfl) ?_
    walk_at "~opK:2"
    refine c_cal (x_cat (e := eS)) fun t27 => ?_
    walk_at "~nameV:1 opK:2"
    refine c_cal (x_ix (e := eS) (l := t27)) fun t28 => ?_
    refine c_retK (.dat (eS t28)) rfl (e2 := [.io 0 (.lst (r10.2.map eI)), .no, .no, .no, .no, .no, .no, .no, .no, .no, .no, .no, .no, .no]) (by simp only [Cm.wipeS, List.set_cons_succ, List.set_cons_zero]) ?_
    walk_at "~seqR"
    exact rfl
  · refine c_skip ?_
    walk_at "~seqN seq set callM cons frz nameV:1 frzD nil"
    refine c_callMK (bk := fun r29 => [.io 0 (.lst (r10.2.map eI)), .val (eS text), .val (eS signs1), .val (eI r2.1), .val (eI r4.1), .val (eS t11), .no, .no, .no, .no, .no, .no, .no, .sto r29.2]) rfl rfl (q_w_parts text ([] : List MC)) (fun _ => by exact rfl) fun r29 => ?_
    refine c_setP (e2 := [.io 0 (.lst (r10.2.map eI)), .val (eS text), .val (eS signs1), .val (eI r2.1), .val (eI r4.1), .val (eS t11), .pv r29.1, .no, .no, .no, .no, .no, .no, .sto r29.2]) rfl ?_
    walk_at "~seqN seq ifS"
    refine c_lendXT (M := r29.2) rfl fun L30 hl31 => ?_
    refine c_lendX2 (e2 := [.val ((eL eI) r10.2), .val (eS text), .val (eS signs1), .val (eI r2.1), .val (eI r4.1), .val (eS t11), .pv r29.1, .no, .no, .no, .no, .no, .no, .sto L30]) rfl ?_
    walk_at "~test isNP nameP:1 isNPK:1 testK"
    refine c_ite ?_ ?_
    · refine c_ret ?_
      walk_at "~op nameV:1 nameV:1 opK:2"
      refine c_cal x_catS fun t32 => ?_
      refine c_retK (.dat (eS t32)) rfl (e2 := [.io 0 (.lst (r10.2.map eI)), .no, .no, .no, .no, .no, .no, .no, .no, .no, .no, .no, .no, .no]) (by simp only [Cm.wipeS, List.set_cons_succ, List.set_cons_zero]) ?_
      walk_at "~seqR"
      exact rfl
    · refine c_skip ?_
      walk_at "~seqN seq set frz callF cons nameI:1 cons"
      refine c_lendX (M := r29.2) rfl fun L33 hl34 => ?_
      refine c_lendX2 (e2 := [.val ((eL eI) r10.2), .val (eS text), .val (eS signs1), .val (eI r2.1), .val (eI r4.1), .val (eS t11), .pv r29.1, .no, .no, .no, .no, .no, .no, .sto L33]) rfl ?_
      walk_at "~cb cons tyE kn nameP:1"
      refine c_knL hl34 rfl rfl fun d35 => ?_
      refine c_tyEK (decL (decT2 decS decS)) fun v36 => ?_
      walk_at "~nil"
      refine c_cbK _ rfl ?_
      refine c_pur (x_lenL (e := (eT2 eS eS)) (l := v36)) ?_
      walk_at "~lendF:1 nil"
      refine c_callK (bk := fun r37 => [.io 0 (.lst (r37.2.map eI)), .val (eS text), .val (eS signs1), .val (eI r2.1), .val (eI r4.1), .val (eS t11), .pv r29.1, .no, .no, .no, .no, .no, .no, .sto r29.2]) rfl rfl (q_w_take r10.2 (v36.length : Int)) (fun _ => by walk_at "fl") (fun _ => rfl) fun r37 => ?_
      walk_at "~frzD"
      refine c_setD (e2 := [.io 0 (.lst (r37.2.map eI)), .val (eS text), .val (eS signs1), .val (eI r2.1), .val (eI r4.1), .val (eS t11), .pv r29.1, .val (eI r37.1), .no, .no, .no, .no, .no, .sto r29.2]) rfl ?_
      walk_at "~seqN seq asg tyE dat pix nameP:1 nameV:1"
      refine c_pixK (i := r37.1) rfl rfl fun p38 => ?_
      refine c_datK rfl fun d39 => ?_
      refine c_tyEK (decT2 decS decS) fun v40 => ?_
      walk_at "~frzD asgK gtup gcons"
      refine c_gname (e2 := [.io 0 (.lst (r37.2.map eI)), .val (eS text), .val (eS signs1), .val (eI r2.1), .val (eI r4.1), .val (eS t11), .pv r29.1, .val (eI r37.1), .val (eS v40.1), .no, .no, .no, .no, .sto r29.2]) rfl ?_
      walk_at "~gcons"
      refine c_gname (e2 := [.io 0 (.lst (r37.2.map eI)), .val (eS text), .val (eS signs1), .val (eI r2.1), .val (eI r4.1), .val (eS t11), .pv r29.1, .val (eI r37.1), .val (eS v40.1), .val (eS v40.2), .no, .no, .no, .sto r29.2]) rfl ?_
      walk_at "~gnil seqN seq set frz lst cons frz c frzD cons frz op c nameV:1 opK:2"
      refine c_cal x_catS fun t41 => ?_
      walk_at "~frzD cons frz c frzD cons frz c frzD cons frz c frzD cons frz c frzD cons frz c frzD nil"
      refine c_lstK ([("0" : Str), t41, ("8" : Str), ("14" : Str), ("40" : Str), ("999999999" : Str), ("1000000000" : Str)].map eS) rfl (Nat.le_of_ble_eq_true rfl) ?_
      walk_at "~frzN"
      refine c_setDL (τ := (List Str)) (eL eS) [("0" : Str), t41, ("8" : Str), ("14" : Str), ("40" : Str), ("999999999" : Str), ("1000000000" : Str)] (fun some_42 => [.io 0 (.lst (r37.2.map eI)), .val (eS text), .val (eS signs1), .val (eI r2.1), .val (eI r4.1), .val (eS t11), .pv r29.1, .val (eI r37.1), .val (eS v40.1), .val (eS v40.2), .val ((eL eS) some_42), .no, .no, .sto r29.2]) (fun _ => rfl) fun some_42 => ?_
      walk_at "~seqN seq psetL in frz if test op nameV:1 c opK:2"
      refine c_pur x_cmp ?_
      walk_at "~testK"
      refine c_ifJ (fun z47 => (.dat ((eT2 eS eS) z47.1), [.io 0 (.lst (z47.2.map eI)), .val (eS text), .val (eS signs1), .val (eI r2.1), .val (eI r4.1), .val (eS t11), .pv r29.1, .val (eI r37.1), .val (eS v40.1), .val (eS v40.2), .val ((eL eS) some_42), .no, .no, .sto r29.2])) ?_ ?_ fun z47 => ?_
      · refine c_tup ?_
        walk_at "~cons frz op nameV:1 callF cons nameI:1 cons c nil"
        refine c_callK (bk := fun r43 => [.io 0 (.lst (r43.2.map eI)), .val (eS text), .val (eS signs1), .val (eI r2.1), .val (eI r4.1), .val (eS t11), .pv r29.1, .val (eI r37.1), .val (eS v40.1), .val (eS v40.2), .val ((eL eS) some_42), .no, .no, .sto r29.2]) rfl rfl (q_w_take r37.2 7) (fun _ => by walk_at "fl") (fun _ => rfl) fun r43 => ?_
        walk_at "~opK:2"
        refine c_cal (x_ix (e := eS) (l := some_42)) fun t44 => ?_
        walk_at "~frzD cons frz nameV:1 frzD nil"
        refine c_tupK _ rfl (Nat.le_of_ble_eq_true rfl) ?_
        exact rfl
      · refine c_tup ?_
        walk_at "~cons frz nameV:1 frzD cons frz op c callF cons nameI:1 cons c nil"
        refine c_callK (bk := fun r45 => [.io 0 (.lst (r45.2.map eI)), .val (eS text), .val (eS signs1), .val (eI r2.1), .val (eI r4.1), .val (eS t11), .pv r29.1, .val (eI r37.1), .val (eS v40.1), .val (eS v40.2), .val ((eL eS) some_42), .no, .no, .sto r29.2]) rfl rfl (q_w_take r37.2 6) (fun _ => by walk_at "fl") (fun _ => rfl) fun r45 => ?_
        walk_at "~opK:2"
        refine c_cal x_ixS fun t46 => ?_
        walk_at "~frzD nil"
        refine c_tupK _ rfl (Nat.le_of_ble_eq_true rfl) ?_
        exact rfl
      walk_at "~frzD inD nameP:1 nameV:1"
      refine c_psetLK (d := (eI r37.1)) (fun M48 => [.io 0 (.lst (z47.2.map eI)), .val (eS text), .val (eS signs1), .val (eI r2.1), .val (eI r4.1), .val (eS t11), .pv r29.1, .val (eI r37.1), .val (eS v40.1), .val (eS v40.2), .val ((eL eS) some_42), .no, .no, .sto M48]) rfl rfl rfl (fun _ => by exact rfl) fun M48 => ?_
      walk_at "~seqN seq ifS test op nameV:1 c opK:2"
      refine c_pur x_eqI0 ?_
      walk_at "~testK"
      refine c_ifJ (fun z49 : (PV × (List MC)) => (.nx, [.io 0 (.lst (z47.2.map eI)), .val (eS text), .val (eS signs1), .val (eI r2.1), .val (eI r4.1), .val (eS t11), .pv z49.1, .val (eI r37.1), .val (eS v40.1), .val (eS v40.2), .val ((eL eS) some_42), .no, .no, .sto z49.2])) ?_ ?_ fun z49 => ?_
      · refine c_aft ?_
        walk_at "~asgP ptup cons pix nameP:1 c"
        refine c_pixK (i := 0) rfl rfl fun p50 => ?_
        walk_at "~cons pix nameP:1 nameV:1"
        refine c_pixK (i := r37.1) rfl rfl fun p51 => ?_
        walk_at "~nil"
        refine c_ptupK (ps := [p50, p51]) rfl (Nat.le_of_ble_eq_true rfl) ?_
        walk_at "~asgT2 gpcons gPL nameP:1 nameV:1"
        refine c_gPLK (fun M52 => [.io 0 (.lst (z47.2.map eI)), .val (eS text), .val (eS signs1), .val (eI r2.1), .val (eI r4.1), .val (eS t11), .pv r29.1, .val (eI r37.1), .val (eS v40.1), .val (eS v40.2), .val ((eL eS) some_42), .no, .no, .sto M52]) rfl rfl (fun _ => by exact rfl) fun M52 => ?_
        walk_at "~gpcons gPL nameP:1 c"
        refine c_gPLK (fun M53 => [.io 0 (.lst (z47.2.map eI)), .val (eS text), .val (eS signs1), .val (eI r2.1), .val (eI r4.1), .val (eS t11), .pv r29.1, .val (eI r37.1), .val (eS v40.1), .val (eS v40.2), .val ((eL eS) some_42), .no, .no, .sto M53]) rfl rfl (fun _ => by exact rfl) fun M53 => ?_
        walk_at "~gpnil"
        refine c_aftN (e2 := [.io 0 (.lst (z47.2.map eI)), .val (eS text), .val (eS signs1), .val (eI r2.1), .val (eI r4.1), .val (eS t11), .pv r29.1, .val (eI r37.1), .val (eS v40.1), .val (eS v40.2), .val ((eL eS) some_42), .no, .no, .sto M53]) rfl ?_
        exact rfl
      · refine c_aft ?_
        walk_at "~skip"
        refine c_aftN (e2 := [.io 0 (.lst (z47.2.map eI)), .val (eS text), .val (eS signs1), .val (eI r2.1), .val (eI r4.1), .val (eS t11), .pv r29.1, .val (eI r37.1), .val (eS v40.1), .val (eS v40.2), .val ((eL eS) some_42), .no, .no, .sto M48]) rfl ?_
        exact rfl
      walk_at "~seqN ret"
      refine c_lendX (M := z49.2) rfl fun L54 hl55 => ?_
      refine c_lendX2 (e2 := [.val ((eL eI) z47.2), .val (eS text), .val (eS signs1), .val (eI r2.1), .val (eI r4.1), .val (eS t11), .pv z49.1, .val (eI r37.1), .val (eS v40.1), .val (eS v40.2), .val ((eL eS) some_42), .no, .no, .sto L54]) rfl ?_
      walk_at "~bm c"
      refine c_bmK _ rfl rfl ?_
      walk_at "~cons lc itL tyE kn nameP:1"
      refine c_knL hl55 rfl rfl fun d56 => ?_
      refine c_tyEK (decL (decT2 decS decS)) fun v57 => ?_
      walk_at "~frzD itLK"
      refine c_lcK (xs := v57) (ec := (eT2 eS eS)) (e1 := [.val ((eL eI) z47.2), .val (eS text), .val (eS signs1), .val (eI r2.1), .val (eI r4.1), .val (eS t11), .pv z49.1, .val (eI r37.1), .val (eS v40.1), .val (eS v40.2), .val ((eL eS) some_42), .no, .no, .sto L54]) (by exact rfl) ?_
      refine c_cal2 (lc_mapO (s_w_spoilt_l2 z47.2 text signs1 r2.1 r4.1 t11 z49.1 r37.1 v40.1 v40.2 some_42 (.sto L54)) _) fun l60 => ?_
      walk_at "~nil"
      refine c_bmK2 _ _ rfl rfl ?_
      refine c_cal (x_join (l := l60)) fun t61 => ?_
      walk_at "~lendF:1"
      refine c_retK (.dat (eS t61)) rfl (e2 := [.io 0 (.lst (z47.2.map eI)), .no, .no, .no, .no, .no, .no, .no, .no, .no, .no, .no, .no, .no]) (by simp only [Cm.wipeS, List.set_cons_succ, List.set_cons_zero]) ?_
      exact rfl
def m_w_read_b1 : MS := (mAft [7, 8, 9] (mSeq (mSet 9 (mFrz (mBM "str" gFind (mName 2) (mCons (mName 8) mNil))))
    (mSeq (mIfS (mOr (mTest (mOp (gCmp fun i j => decide (i ≤ j)) (mName 9) (mName 5))) (mOr (mTest (mOp (gEq false) (mOp gIx (mName 7) (mC (.int 0))) (mC (.str "0")))) (mOr (mTest (mOp (gCmp fun i j => decide (j < i)) (mCB gLen (mCons (mName 7) mNil)) (mC (.int 9)))) (mTest (mOp (gCmp fun i j => decide (j ≤ i)) (mCB gIntS (mCons (mName 7) mNil)) (mOp gIx (mName 6) (mName 9))))))) (mRetW [0, 1, 2, 3, 4, 5, 6, 7, 8, 9, 10] (mC .none)) mSkip)
    (mPutU [4, 5] (mConsU (mOp gAdd (mName 4) (mOp gMul (mCB gIntS (mCons (mName 7) mNil)) (mOp gIx (mLst (mCons (mFrz (mOp gIx (mName 1) (mC (.int 0)))) (mCons (mFrz (mOp gIx (mName 1) (mC (.int 1)))) (mCons (mFrz (mC (.int 1))) mNil)))) (mName 9)))) (mConsU (mFrz (mName 9)) mNil))))))
def P_w_read_b2 (units : (Int × Int)) (letters : Str) (most : (List Int)) (xx : PV) (ss : (Int × Int × (List MC))) : Option (Fw (Option Int) (Int × Int × (List MC))) :=
  ((PV.asD xx).bind (decT2 decS decS).f).bind fun d14 =>
  (some (Txt.find letters d14.2)).bind fun place15 =>
  (if decide (place15 ≤ ss.2.1) = true then
    some true
  else
    (pIxS d14.1 0).bind fun t16 =>
    (if decide (t16 = ("0" : Str)) = true then
      some true
    else
      (pLenS d14.1).bind fun t17 =>
      (if decide (9 < t17) = true then
        some true
      else
        (pIntS d14.1).bind fun t18 =>
        (pIx most place15).bind fun t19 =>
        some (decide (t19 ≤ t18))).bind fun z20 =>
      some z20).bind fun z21 =>
    some z21).bind fun z22 =>
  if z22 = true then
    some (.rt (none : (Option Int)))
  else
    (pIntS d14.1).bind fun t23 =>
    (pIx [units.1, units.2, 1] place15).bind fun t24 =>
    (pMul t23 t24).bind fun t25 =>
    some (.nx ((ss.1 + t25), place15, ss.2.2))
theorem s_w_read_b2 (o0 : Slot) (units : (Int × Int)) (letters : Str) (o3 : Slot) (most : (List Int)) (xx : PV) (ss : (Int × Int × (List MC))) : ((mgTyD (fun d => ((decT2 decS decS).f d).isSome) (mgTup (mgCons (mgName 7) (mgCons (mgName 8) mgNil)))) xx [o0, .val ((eT2 eI eI) units), .val (eS letters), o3, .val (eI ss.1), .val (eI ss.2.1), .val ((eL eI) most), .no, .no, .no, .sto ss.2.2]).bind m_w_read_b1 = (P_w_read_b2 units letters most xx ss).map (outB (fun z : (Option Int) => .dat ((eO eI) z)) (fun z => [.no, .no, .no, .no, .no, .no, .no, .no, .no, .no, .no]) (fun ss : (Int × Int × (List MC)) => [o0, .val ((eT2 eI eI) units), .val (eS letters), o3, .val (eI ss.1), .val (eI ss.2.1), .val ((eL eI) most), .no, .no, .no, .sto ss.2.2])) := c_bodyP (by
  unfold P_w_read_b2 m_w_read_b1
  refine c_gTyG (decT2 decS decS) fun d14 => ?_
  walk_at "~gtup gcons"
  refine c_gname (e2 := [o0, .val ((eT2 eI eI) units), .val (eS letters), o3, .val (eI ss.1), .val (eI ss.2.1), .val ((eL eI) most), .val (eS d14.1), .no, .no, .sto ss.2.2]) rfl ?_
  walk_at "~gcons"
  refine c_gname (e2 := [o0, .val ((eT2 eI eI) units), .val (eS letters), o3, .val (eI ss.1), .val (eI ss.2.1), .val ((eL eI) most), .val (eS d14.1), .val (eS d14.2), .no, .sto ss.2.2]) rfl ?_
  walk_at "~gnil aft seq set frz bm nameV:1"
  refine c_bmK _ rfl rfl ?_
  walk_at "~cons nameV:1 nil"
  refine c_bmK2 _ _ rfl rfl ?_
  refine c_pur x_find ?_
  walk_at "~frzD"
  refine c_setDL (τ := Int) eI (Txt.find letters d14.2) (fun place15 => [o0, .val ((eT2 eI eI) units), .val (eS letters), o3, .val (eI ss.1), .val (eI ss.2.1), .val ((eL eI) most), .val (eS d14.1), .val (eS d14.2), .val (eI place15), .sto ss.2.2]) (fun _ => rfl) fun place15 => ?_
  walk_at "~seqN seq ifS orB test op nameV:1 nameV:1 opK:2"
  refine c_pur x_cmp ?_
  walk_at "~testK"
  refine c_ifJ (fun z22 => (z22, [o0, .val ((eT2 eI eI) units), .val (eS letters), o3, .val (eI ss.1), .val (eI ss.2.1), .val ((eL eI) most), .val (eS d14.1), .val (eS d14.2), .val (eI place15), .sto ss.2.2])) ?_ ?_ fun z22 => ?_
  · exact rfl
  · refine c_orB ?_
    walk_at "~test op op nameV:1 c opK:2"
    refine c_cal x_ixS fun t16 => ?_
    walk_at "~c opK:2"
    refine c_pur x_eqS0 ?_
    walk_at "~testK"
    refine c_ifJ (fun z21 => (z21, [o0, .val ((eT2 eI eI) units), .val (eS letters), o3, .val (eI ss.1), .val (eI ss.2.1), .val ((eL eI) most), .val (eS d14.1), .val (eS d14.2), .val (eI place15), .sto ss.2.2])) ?_ ?_ fun z21 => ?_
    · exact rfl
    · refine c_orB ?_
      walk_at "~test op cb cons nameV:1 nil"
      refine c_cbK _ rfl ?_
      refine c_cal x_lenS fun t17 => ?_
      walk_at "~c opK:2"
      refine c_pur x_cmp ?_
      walk_at "~testK"
      refine c_ifJ (fun z20 => (z20, [o0, .val ((eT2 eI eI) units), .val (eS letters), o3, .val (eI ss.1), .val (eI ss.2.1), .val ((eL eI) most), .val (eS d14.1), .val (eS d14.2), .val (eI place15), .sto ss.2.2])) ?_ ?_ fun z20 => ?_
      · exact rfl
      · refine c_test ?_
        walk_at "~op cb cons nameV:1 nil"
        refine c_cbK _ rfl ?_
        refine c_cal x_intS fun t18 => ?_
        walk_at "~op nameV:1 nameV:1 opK:2"
        refine c_cal (x_ix (e := eI) (l := most)) fun t19 => ?_
        walk_at "~opK:2"
        refine c_pur x_cmp ?_
        walk_at "~testK"
        exact rfl
      exact rfl
    exact rfl
  refine c_ite ?_ ?_
  · refine c_ret ?_
    walk_at "~c"
    refine c_retK (.dat ((eO eI) (none : (Option Int)))) rfl (e2 := [.no, .no, .no, .no, .no, .no, .no, .no, .no, .no, .no]) rfl ?_
    walk_at "~seqR aftR"
    exact rfl
  · refine c_skip ?_
    walk_at "~seqN putU consU op nameV:1 op cb cons nameV:1 nil"
    refine c_cbK _ rfl ?_
    refine c_cal x_intS fun t23 => ?_
    walk_at "~op lst cons frz op nameV:1 c opK:2"
    refine c_pur (x_ixT rfl) ?_
    walk_at "~frzD cons frz op nameV:1 c opK:2"
    refine c_pur (x_ixT rfl) ?_
    walk_at "~frzD cons frz c frzD nil"
    refine c_lstK ([units.1, units.2, 1].map eI) rfl (Nat.le_of_ble_eq_true rfl) ?_
    walk_at "~nameV:1 opK:2"
    refine c_cal (x_ix (e := eI) (l := [units.1, units.2, 1])) fun t24 => ?_
    walk_at "~opK:2"
    refine c_cal x_mul fun t25 => ?_
    walk_at "~opK:2"
    refine c_pur x_add ?_
    walk_at "~frzSD consU frz nameV:1 frzD frzSD nil"
    refine c_putUK [o0, .val ((eT2 eI eI) units), .val (eS letters), o3, .val (eI (ss.1 + t25)), .val (eI place15), .val ((eL eI) most), .val (eS d14.1), .val (eS d14.2), .val (eI place15), .sto ss.2.2] rfl ?_
    refine c_aftN (e2 := [o0, .val ((eT2 eI eI) units), .val (eS letters), o3, .val (eI (ss.1 + t25)), .val (eI place15), .val ((eL eI) most), .no, .no, .no, .sto ss.2.2]) rfl ?_
    exact rfl)
def m_w_read : MS := (mSeq (mPutU [3, 4, 5] (mConsU (mCallM fmM_w_parts none (mCons (mFrz (mName 0)) mNil)) (mConsU (mC (.int 0)) (mConsU (mUn gNeg (mC (.int 1))) mNil))))
    (mSeq (mIfS (mLendKT (mOr (mTest (mIsNP false (mName 3))) (mTest (mOp (gEq false) (mTyE (fun d => ((decL (decT2 decS decS)).f d).isSome) (mKn (mName 3))) (mLst (mCons (mFrz (mTup (mCons (mFrz (mC (.str "0"))) (mCons (mFrz (mOp gIx (mName 2) (mC (.int 2)))) mNil)))) mNil)))))) (mRetW [0, 1, 2, 3, 4, 5, 6, 7, 8, 9, 10] (mIf (mLendKT (mTest (mIsNP false (mName 3)))) (mFrz (mC .none)) (mFrz (mC (.int 0))))) mSkip)
    (mSeq (mSet 6 (mFrz (mLst (mCons (mFrz (mOp gPow (mC (.int 10)) (mC (.int 9)))) (mCons (mFrz (mOp gDiv (mOp gIx (mName 1) (mC (.int 0))) (mOp gIx (mName 1) (mC (.int 1))))) (mCons (mFrz (mOp gIx (mName 1) (mC (.int 1)))) mNil))))))
    (mSeq (mBef [7, 8, 9] (mForP (mItP (mName 3)) (mgTyD (fun d => ((decT2 decS decS).f d).isSome) (mgTup (mgCons (mgName 7) (mgCons (mgName 8) mgNil)))) m_w_read_b1))
    (mRetW [0, 1, 2, 3, 4, 5, 6, 7, 8, 9, 10] (mName 4))))))
def fm_w_read : FM := fmSt 3 11 m_w_read
theorem ok_w_read (T : Tx w K mg fd) : FnOk P w K mg base CX0 2 (He.ga K "_law_read") (fd 7) ["_law_text", "_law_units", "_law_letters"] (spF K fm_w_read) :=
  fn_okS T.F_w_read sc_w_read fun cdv A outer s H E hr => (show VSs _ _ m_w_read from (vs_cons (vs_par3 (i := 3) (j := 4) (l := 5) sc_w_read.nd (vau_cons (ve_callM none (FnOk.mono (okM_w_parts T) (by decide)) hr T.g_w_parts T.F_w_parts.kp (bi_w_parts T) (va_cons (ve_frz (ve_name 0)) va_nil)) (vau_cons ve_int (vau_cons (ve_un un_neg ud_neg ve_int) vau_nil))))
      (vs_cons (vs_if (vt_lendK (vt_w (vw_or (vt_isNP (ve_name 3)) (vw_or1 (vt_cmp (or_eq hr.units) od_eq (ve_tyE (ve_kn (ve_name 3))) (ve_lst (va_cons (ve_frz (ve_tup (va_cons (ve_frz ve_str) (va_cons (ve_frz (ve_ix ix_seq od_ix (ve_name 2) ve_int (fun _ _ => rfl))) va_nil)))) va_nil)) (nomark _)))))) (vs_one (vs_retW (ve_if (vt_lendK (vt_isNP (ve_name 3))) (ve_frz ve_non) (ve_frz ve_int)))) vs_nil)
      (vs_cons (vs_set (i := 6) sc_w_read.nd (ve_frz (ve_lst (va_cons (ve_frz (ve_op op_pow od_pow ve_int ve_int)) (va_cons (ve_frz (ve_op op_fdiv od_div (ve_ix ix_seq od_ix (ve_name 1) ve_int (fun _ _ => rfl)) (ve_ix ix_seq od_ix (ve_name 1) ve_int (fun _ _ => rfl)))) (va_cons (ve_frz (ve_ix ix_seq od_ix (ve_name 1) ve_int (fun _ _ => rfl))) va_nil))))))
      (vs_cons (vs_bef (ws := [7, 8, 9]) (vs_forP PassesOwn.never (vi_P (ve_name 3)) (vg_tyD (ok := (fun d => ((decT2 decS decS).f d).isSome)) (vg_tup (vgs_cons (vg_name (j := 7) sc_w_read.nd) (vgs_cons (vg_name (j := 8) sc_w_read.nd) vgs_nil)) (mgcons_len (mgcons_len mgnil_len)))) (vs_aft (ws := [7, 8, 9]) (vs_cons (vs_set (i := 9) sc_w_read.nd (ve_frz (ve_bm PySem.F.plainAttrs_str PySem.F.slot_str_find PySem.F.type_str_find mt_find mtd_find (ve_name 2) (va_cons (ve_name 8) va_nil))))
      (vs_cons (vs_if (vt_w (vw_or (vt_cmp op_le (od_cmp (p := fun i j => decide (i ≤ j))) (ve_name 9) (ve_name 5) (nomark _)) (vw_or (vt_cmp (or_eq hr.units) od_eq (ve_ix ix_seq od_ix (ve_name 7) ve_int (fun _ _ => rfl)) ve_str (nomark _)) (vw_or (vt_cmp op_gt (od_cmp (p := fun i j => decide (j < i))) (ve_callB call_len cd_len (by rfl) T.b_len PySem.boot_len (va_cons (ve_name 7) va_nil)) ve_int (nomark _)) (vw_or1 (vt_cmp op_ge (od_cmp (p := fun i j => decide (j ≤ i))) (ve_callTy call_int_str cd_intS (by rfl) T.b_int (by decide +kernel) (va_cons (ve_name 7) va_nil)) (ve_ix ix_seq od_ix (ve_name 6) (ve_name 9) (fun _ _ => rfl)) (nomark _))))))) (vs_one (vs_retW ve_non)) vs_nil)
      (vs_one (vs_par (i := 4) (j := 5) sc_w_read.nd (vau_cons (ve_op or_add od_add (ve_name 4) (ve_op or_mul od_mul (ve_callTy call_int_str cd_intS (by rfl) T.b_int (by decide +kernel) (va_cons (ve_name 7) va_nil)) (ve_ix ix_seq od_ix (ve_lst (va_cons (ve_frz (ve_ix ix_seq od_ix (ve_name 1) ve_int (fun _ _ => rfl))) (va_cons (ve_frz (ve_ix ix_seq od_ix (ve_name 1) ve_int (fun _ _ => rfl))) (va_cons (ve_frz ve_int) va_nil)))) (ve_name 9) (fun _ _ => rfl)))) (vau_cons (ve_frz (ve_name 9)) vau_nil)))))))))
      (vs_one (vs_retW (ve_name 4))))))))
def P_w_read (text : Str) (units : (Int × Int)) (letters : Str) : Option (Option Int) :=
  (P_w_parts text ([] : List MC)).bind fun r1 =>
  (if (PV.isN r1.1) = true then
    some true
  else
    (PV.deep r1.2 9 r1.1).bind fun d4 =>
    ((decL (decT2 decS decS)).f d4).bind fun v5 =>
    (pIxS letters 2).bind fun t6 =>
    (pEq (eL (eT2 eS eS)) false v5 [(("0" : Str), t6)]).bind fun t7 =>
    some t7).bind fun z8 =>
  if z8 = true then
    if (PV.isN r1.1) = true then
      some (none : (Option Int))
    else
      some (some 0)
  else
    (pDiv units.1 units.2).bind fun t11 =>
    (some [1000000000, t11, units.2]).bind fun most12 =>
    (pItP r1.2 r1.1).bind fun q13 =>
    (forPP (fun sG : (Int × Int × (List MC)) => (sG.2.2)[q13.1]? = some (MC.lst q13.2)) (P_w_read_b2 units letters most12) q13.2 (0, (-1), r1.2)).bind fun w27 => w27.on (fun z => some z) fun s26 =>
      some (some s26.1)
theorem q_w_read (text : Str) (units : (Int × Int)) (letters : Str) : fm_w_read [.val (eS text), .val ((eT2 eI eI) units), .val (eS letters)] = (P_w_read text units letters).map fun z => (.dat ((eO eI) z), [.no, .no, .no]) := by
  unfold fm_w_read m_w_read P_w_read
  refine c_fmSt (oR := fun z : (Option Int) => .dat ((eO eI) z)) (eR := fun z => [.no, .no, .no, .no, .no, .no, .no, .no, .no, .no, .no]) [.val (eS text), .val ((eT2 eI eI) units), .val (eS letters), .no, .no, .no, .no, .no, .no, .no, .sto ([] : List MC)] rfl rfl ?_ (fun _ => rfl) (fun _ => by walk_at "ik") (fun _ => rfl)
  walk_at "~seq putU consU callM cons frz nameV:1 frzD nil"
  refine c_callMK (bk := fun r1 => [.val (eS text), .val ((eT2 eI eI) units), .val (eS letters), .no, .no, .no, .no, .no, .no, .no, .sto r1.2]) rfl rfl (q_w_parts text ([] : List MC)) (fun _ => by exact rfl) fun r1 => ?_
  walk_at "~frzSP consU c frzSD consU un c unK:1"
  refine c_pur x_neg ?_
  walk_at "~frzSD nil"
  refine c_putUK [.val (eS text), .val ((eT2 eI eI) units), .val (eS letters), .pv r1.1, .val (eI 0), .val (eI (-1)), .no, .no, .no, .no, .sto r1.2] rfl ?_
  walk_at "~seqN seq ifS"
  refine c_lendXT (M := r1.2) rfl fun L2 hl3 => ?_
  refine c_lendX2 (e2 := [.val (eS text), .val ((eT2 eI eI) units), .val (eS letters), .pv r1.1, .val (eI 0), .val (eI (-1)), .no, .no, .no, .no, .sto L2]) rfl ?_
  walk_at "~orB test isNP nameP:1 isNPK:1 testK"
  refine c_ifJ (fun z8 => (z8, [.val (eS text), .val ((eT2 eI eI) units), .val (eS letters), .pv r1.1, .val (eI 0), .val (eI (-1)), .no, .no, .no, .no, .sto L2])) ?_ ?_ fun z8 => ?_
  · exact rfl
  · refine c_test ?_
    walk_at "~op tyE kn nameP:1"
    refine c_knL hl3 rfl rfl fun d4 => ?_
    refine c_tyEK (decL (decT2 decS decS)) fun v5 => ?_
    walk_at "~lst cons frz tup cons frz c frzD cons frz op nameV:1 c opK:2"
    refine c_cal x_ixS fun t6 => ?_
    walk_at "~frzD nil"
    refine c_tupK _ rfl (Nat.le_of_ble_eq_true rfl) ?_
    walk_at "~frzD nil"
    refine c_lstK ([(("0" : Str), t6)].map (eT2 eS eS)) rfl (Nat.le_of_ble_eq_true rfl) ?_
    walk_at "~opK:2"
    refine c_cal (x_eqE (x := v5) (y := [(("0" : Str), t6)]) (eqE_list (eqE_t2 eqE_str eqE_str)) rfl) fun t7 => ?_
    walk_at "~testK"
    exact rfl
  refine c_ite ?_ ?_
  · refine c_ret ?_
    walk_at "~if"
    refine c_lendXT (M := r1.2) rfl fun L9 hl10 => ?_
    refine c_lendX2 (e2 := [.val (eS text), .val ((eT2 eI eI) units), .val (eS letters), .pv r1.1, .val (eI 0), .val (eI (-1)), .no, .no, .no, .no, .sto L9]) rfl ?_
    walk_at "~test isNP nameP:1 isNPK:1 testK"
    refine c_ite ?_ ?_
    · refine c_frz ?_
      walk_at "~c frzD"
      refine c_retK (.dat ((eO eI) (none : (Option Int)))) rfl (e2 := [.no, .no, .no, .no, .no, .no, .no, .no, .no, .no, .no]) rfl ?_
      walk_at "~seqR"
      exact rfl
    · refine c_frz ?_
      walk_at "~c frzD"
      refine c_retK (.dat ((eO eI) (some 0))) rfl (e2 := [.no, .no, .no, .no, .no, .no, .no, .no, .no, .no, .no]) rfl ?_
      walk_at "~seqR"
      exact rfl
  · refine c_skip ?_
    walk_at "~seqN seq set frz lst cons frz op c c opK:2"
    refine c_pur (v := .dat (.int 1000000000)) rfl ?_
    walk_at "~frzD cons frz op op nameV:1 c opK:2"
    refine c_pur (x_ixT rfl) ?_
    walk_at "~op nameV:1 c opK:2"
    refine c_pur (x_ixT rfl) ?_
    walk_at "~opK:2"
    refine c_cal x_div fun t11 => ?_
    walk_at "~frzD cons frz op nameV:1 c opK:2"
    refine c_pur (x_ixT rfl) ?_
    walk_at "~frzD nil"
    refine c_lstK ([1000000000, t11, units.2].map eI) rfl (Nat.le_of_ble_eq_true rfl) ?_
    walk_at "~frzN"
    refine c_setDL (τ := (List Int)) (eL eI) [1000000000, t11, units.2] (fun most12 => [.val (eS text), .val ((eT2 eI eI) units), .val (eS letters), .pv r1.1, .val (eI 0), .val (eI (-1)), .val ((eL eI) most12), .no, .no, .no, .sto r1.2]) (fun _ => rfl) fun most12 => ?_
    walk_at "~seqN seq"
    refine c_bef (e2 := [.val (eS text), .val ((eT2 eI eI) units), .val (eS letters), .pv r1.1, .val (eI 0), .val (eI (-1)), .val ((eL eI) most12), .no, .no, .no, .sto r1.2]) rfl ?_
    walk_at "~forP itP nameP:1"
    refine c_itPK rfl fun q13 => ?_
    refine c_loopR (E := fun sE : (Int × Int × (List MC)) => [.val (eS text), .val ((eT2 eI eI) units), .val (eS letters), .pv r1.1, .val (eI sE.1), .val (eI sE.2.1), .val ((eL eI) most12), .no, .no, .no, .sto sE.2.2]) (oR := fun z : (Option Int) => .dat ((eO eI) z)) (eR := fun z => [.no, .no, .no, .no, .no, .no, .no, .no, .no, .no, .no]) (forPL_R (E := fun sE : (Int × Int × (List MC)) => [.val (eS text), .val ((eT2 eI eI) units), .val (eS letters), .pv r1.1, .val (eI sE.1), .val (eI sE.2.1), .val ((eL eI) most12), .no, .no, .no, .sto sE.2.2]) (oR := fun z : (Option Int) => .dat ((eO eI) z)) (eR := fun z => [.no, .no, .no, .no, .no, .no, .no, .no, .no, .no, .no]) (Gs := (fun sG : (Int × Int × (List MC)) => (sG.2.2)[q13.1]? = some (MC.lst q13.2))) (fun _ => by exact rfl) (s_w_read_b2 (.val (eS text)) units letters (.pv r1.1) most12) _ (0, (-1), r1.2)) (fun z => ?_) (fun s26 => ?_)
    · refine c_seqR ?_
      exact rfl
    · refine c_seqN ?_
      walk_at "~ret nameV:1"
      refine c_retK (.dat ((eO eI) (some s26.1))) rfl (e2 := [.no, .no, .no, .no, .no, .no, .no, .no, .no, .no, .no]) rfl ?_
      exact rfl
def m_plain_number_e1 : ME := (mOp (gInS false) (mName 1) (mC c_FIGURES))
def P_plain_number_l2  (y2 : Str) : Option Bool :=
  (pInS false y2 ("0123456789" : Str)).bind fun t3 =>
  some t3
theorem s_plain_number_l2 (o0 : Slot) (y2 : Str) : lcStep (mgName 1) mYes m_plain_number_e1 [1] (eS y2) [o0, .no] = (P_plain_number_l2  y2).map fun z => (some (eB z), [o0, .no]) := c_stepM (α := Unit) (by
  unfold P_plain_number_l2
  refine c_gname (e2 := [o0, .val (eS y2)]) rfl ?_
  walk_at "~yes iteT bb op nameV:1 c opK:2"
  refine c_cal x_inS fun t3 => ?_
  walk_at "~frzD"
  refine c_elt (e1 := [o0, .no]) rfl ?_
  exact rfl)
def m_plain_number : MS := (mSeq (mIfS (mOr (mNot (mTest (mChain (gCmp fun i j => decide (i ≤ j)) (gCmp fun i j => decide (i ≤ j)) (mC (.int 1)) (mCB gLen (mCons (mName 0) mNil)) (mC c_MOST_FIGURES)))) (mNot (mTest (mCB gAll (mCons (mLc (mItS (mName 0)) (mgName 1) mYes m_plain_number_e1 [1]) mNil))))) (mRetW [0, 1] (mC .none)) mSkip)
    (mSeq (mIfS (mAnd (mTest (mOp (gEq false) (mOp gIx (mName 0) (mC (.int 0))) (mC (.str "0")))) (mTest (mOp (gEq true) (mName 0) (mC (.str "0"))))) (mRetW [0, 1] (mC .none)) mSkip)
    (mRetW [0, 1] (mCB gIntS (mCons (mName 0) mNil)))))
def fm_plain_number : FM := fmOf 1 2 m_plain_number
theorem ok_plain_number (T : Tx w K mg fd) : FnOk P w K mg base CX0 1 (He.ga K "plain_number") (fd 8) ["text"] (spF K fm_plain_number) :=
  fn_ok T.F_plain_number sc_plain_number fun cdv A outer s H E hr => (show VSs _ _ m_plain_number from (vs_cons (vs_if (vt_w (vw_or (vt_not (vt_chain op_le (od_cmp (p := fun i j => decide (i ≤ j))) op_le (od_cmp (p := fun i j => decide (i ≤ j))) ve_int (ve_callB call_len cd_len (by rfl) T.b_len PySem.boot_len (va_cons (ve_name 0) va_nil)) (ve_c_MOST_FIGURES T))) (vw_or1 (vt_not (vt_val (ve_callB (cr_all rfl) cd_all (by rfl) T.b_all (by decide +kernel) (va_cons (ve_lc (own := [("sign", 1)]) sc_plain_number.nd (vi_str (ve_name 0)) (blkOk_by (own := [("sign", 1)]) (N := ["text", "sign"]) (sc := defScope s_plain_number) (by decide +kernel)) (fun _ _ _ _ _ => (vg_name (j := 1) sc_plain_number.nd)) (fun _ _ _ _ _ => vts_nil) (fun _ _ _ _ _ => (ve_cmp op_inS od_ins (ve_name 1) (ve_c_FIGURES T) (by rfl))) (by decide)) va_nil))))))) (vs_one (vs_retW ve_non)) vs_nil)
      (vs_cons (vs_if (vt_w (vw_and (vt_cmp (or_eq hr.units) od_eq (ve_ix ix_seq od_ix (ve_name 0) ve_int (fun _ _ => rfl)) ve_str (nomark _)) (vw_and1 (vt_cmp (or_ne hr.units) od_ne (ve_name 0) ve_str (nomark _))))) (vs_one (vs_retW ve_non)) vs_nil)
      (vs_one (vs_retW (ve_callTy call_int_str cd_intS (by rfl) T.b_int (by decide +kernel) (va_cons (ve_name 0) va_nil)))))))
def P_plain_number (text : Str) : Option (Option Int) :=
  (pLenS text).bind fun t1 =>
  (if (!(decide (1 ≤ t1) && decide (t1 ≤ (9)))) = true then
    some true
  else
    (gd ((signs text).length ≤ 100000)).bind fun _ =>
    (mapO (P_plain_number_l2 ) (signs text)).bind fun l4 =>
    some (!(l4.all id))).bind fun z5 =>
  if z5 = true then
    some (none : (Option Int))
  else
    (pIxS text 0).bind fun t6 =>
    (if decide (t6 = ("0" : Str)) = true then
      some (!decide (text = ("0" : Str)))
    else
      some false).bind fun z7 =>
    if z7 = true then
      some (none : (Option Int))
    else
      (pIntS text).bind fun t8 =>
      some (some t8)
theorem q_plain_number (text : Str) : fm_plain_number [.val (eS text)] = (P_plain_number text).map fun z => (.dat ((eO eI) z), [.no]) := by
  unfold fm_plain_number m_plain_number P_plain_number
  refine c_fm (oR := fun z : (Option Int) => .dat ((eO eI) z)) (eR := fun z => [.no, .no]) [.val (eS text), .no] rfl rfl ?_ (fun _ => rfl) (fun _ => by walk_at "ik") (fun _ => rfl)
  walk_at "~seq ifS orB notB test chain c cb cons nameV:1 nil"
  refine c_cbK _ rfl ?_
  refine c_cal x_lenS fun t1 => ?_
  walk_at "~opK:2"
  refine c_pur x_cmp ?_
  walk_at "~boolK"
  refine c_chainT (c_tot (by refine c_c ?_; exact rfl)) rfl x_cmp ?_
  walk_at "~testK"
  refine c_ifJ (fun z5 => (z5, [.val (eS text), .no])) ?_ ?_ fun z5 => ?_
  · exact rfl
  · refine c_notB ?_
    walk_at "~test cb cons lc itS nameV:1 itSK"
    refine c_lcK (xs := (signs text)) (ec := eS) (e1 := [.val (eS text), .no]) (by exact rfl) ?_
    refine c_cal2 (lc_mapO (s_plain_number_l2 (.val (eS text))) _) fun l4 => ?_
    walk_at "~nil"
    refine c_cbK _ rfl ?_
    refine c_pur (x_all (l := l4)) ?_
    walk_at "~testK"
    exact rfl
  refine c_ite ?_ ?_
  · refine c_ret ?_
    walk_at "~c"
    refine c_retK (.dat ((eO eI) (none : (Option Int)))) rfl (e2 := [.no, .no]) rfl ?_
    walk_at "~seqR"
    exact rfl
  · refine c_skip ?_
    walk_at "~seqN seq ifS andB test op op nameV:1 c opK:2"
    refine c_cal x_ixS fun t6 => ?_
    walk_at "~c opK:2"
    refine c_pur x_eqS0 ?_
    walk_at "~testK"
    refine c_ifJ (fun z7 => (z7, [.val (eS text), .no])) ?_ ?_ fun z7 => ?_
    · refine c_test ?_
      walk_at "~op nameV:1 c opK:2"
      refine c_pur x_eqS1 ?_
      walk_at "~testK"
      exact rfl
    · exact rfl
    refine c_ite ?_ ?_
    · refine c_ret ?_
      walk_at "~c"
      refine c_retK (.dat ((eO eI) (none : (Option Int)))) rfl (e2 := [.no, .no]) rfl ?_
      walk_at "~seqR"
      exact rfl
    · refine c_skip ?_
      walk_at "~seqN ret cb cons nameV:1 nil"
      refine c_cbK _ rfl ?_
      refine c_cal x_intS fun t8 => ?_
      refine c_retK (.dat ((eO eI) (some t8))) rfl (e2 := [.no, .no]) rfl ?_
      exact rfl
def m_units_text_b1 : MS := (mAft [4, 5] (mSeq (mIfS (mTest (mOp (gCmp fun i j => decide (j ≤ i)) (mName 3) (mName 5))) (mAft [] (mAugS 2 (mOp gAdd (mCB gStr (mCons (mOp gDiv (mName 3) (mName 5)) mNil)) (mName 4)))) (mAft [] mSkip))
    (mSet 3 (mFrz (mOp gMod (mName 3) (mName 5))))))
def P_units_text_b2  (xx : (Str × Int)) (ss : (Str × Int)) : Option (Str × Int) :=
  (if decide (xx.2 ≤ ss.2) = true then
    (pDiv ss.2 xx.2).bind fun t3 =>
    (pStr t3).bind fun t4 =>
    (pCatS t4 xx.1).bind fun t5 =>
    (pCatS ss.1 t5).bind fun found6 =>
    some found6
  else
    some ss.1).bind fun z2 =>
  (pMod ss.2 xx.2).bind fun t7 =>
  some (z2, t7)
theorem s_units_text_b2 (o0 : Slot) (o1 : Slot) (xx : (Str × Int)) (ss : (Str × Int)) : ((mgTup (mgCons (mgName 4) (mgCons (mgName 5) mgNil))) ((eT2 eS eI) xx) [o0, o1, .val (eS ss.1), .val (eI ss.2), .no, .no]).bind m_units_text_b1 = (P_units_text_b2  xx ss).map (outN (fun ss : (Str × Int) => [o0, o1, .val (eS ss.1), .val (eI ss.2), .no, .no])) := c_body (by
  unfold P_units_text_b2 m_units_text_b1
  walk_at "~gtup gcons"
  refine c_gname (e2 := [o0, o1, .val (eS ss.1), .val (eI ss.2), .val (eS xx.1), .no]) rfl ?_
  walk_at "~gcons"
  refine c_gname (e2 := [o0, o1, .val (eS ss.1), .val (eI ss.2), .val (eS xx.1), .val (eI xx.2)]) rfl ?_
  walk_at "~gnil aft seq ifS test op nameV:1 nameV:1 opK:2"
  refine c_pur x_cmp ?_
  walk_at "~testK"
  refine c_ifJ (fun z2 : Str => (.nx, [o0, o1, .val (eS z2), .val (eI ss.2), .val (eS xx.1), .val (eI xx.2)])) ?_ ?_ fun z2 => ?_
  · refine c_aft ?_
    walk_at "~augS:1 op cb cons op nameV:1 nameV:1 opK:2"
    refine c_cal x_div fun t3 => ?_
    walk_at "~nil"
    refine c_cbK _ rfl ?_
    refine c_cal x_str fun t4 => ?_
    walk_at "~nameV:1 opK:2"
    refine c_cal x_catS fun t5 => ?_
    refine c_augSK (fun found6 => [o0, o1, .val (eS found6), .val (eI ss.2), .val (eS xx.1), .val (eI xx.2)]) (fun _ => rfl) fun found6 => ?_
    refine c_aftN (e2 := [o0, o1, .val (eS found6), .val (eI ss.2), .val (eS xx.1), .val (eI xx.2)]) rfl ?_
    exact rfl
  · refine c_aft ?_
    walk_at "~skip"
    refine c_aftN (e2 := [o0, o1, .val (eS ss.1), .val (eI ss.2), .val (eS xx.1), .val (eI xx.2)]) rfl ?_
    exact rfl
  walk_at "~seqN set frz op nameV:1 nameV:1 opK:2"
  refine c_cal x_mod fun t7 => ?_
  walk_at "~frzD"
  refine c_setD (e2 := [o0, o1, .val (eS z2), .val (eI t7), .val (eS xx.1), .val (eI xx.2)]) rfl ?_
  refine c_aftN (e2 := [o0, o1, .val (eS z2), .val (eI t7), .no, .no]) rfl ?_
  exact rfl)
def m_units_text : MS := (mSeq (mSet 2 (mFrz (mC (.str ""))))
    (mSeq (mSet 3 (mFrz (mName 0)))
    (mSeq (mBef [4, 5] (mFor (mItT (mName 1)) (mgTup (mgCons (mgName 4) (mgCons (mgName 5) mgNil))) m_units_text_b1))
    (mRetW [0, 1, 2, 3, 4, 5] (mIf (mTest (mOp (gEq false) (mName 2) (mC (.str "")))) (mFrz (mOp gAdd (mC (.str "0")) (mOp gIx (mOp gIx (mName 1) (mUn gNeg (mC (.int 1)))) (mC (.int 0))))) (mFrz (mName 2)))))))
def fm_units_text : FM := fmOf 2 6 m_units_text
theorem ok_units_text (T : Tx w K mg fd) : FnOk P w K mg base CX0 1 (He.ga K "units_text") (fd 9) ["number", "units"] (spF K fm_units_text) :=
  fn_ok T.F_units_text sc_units_text fun cdv A outer s H E hr => (show VSs _ _ m_units_text from (vs_cons (vs_set (i := 2) sc_units_text.nd (ve_frz ve_str))
      (vs_cons (vs_set (i := 3) sc_units_text.nd (ve_frz (ve_name 0)))
      (vs_cons (vs_bef (ws := [4, 5]) (vs_for PassesOwn.never (vi_tup (ve_name 1)) (vg_tup (vgs_cons (vg_name (j := 4) sc_units_text.nd) (vgs_cons (vg_name (j := 5) sc_units_text.nd) vgs_nil)) (mgcons_len (mgcons_len mgnil_len))) (vs_aft (ws := [4, 5]) (vs_cons (vs_if (vt_cmp op_ge (od_cmp (p := fun i j => decide (j ≤ i))) (ve_name 3) (ve_name 5) (nomark _)) (vs_aft (ws := []) (vs_one (vs_augS (i := 2) sc_units_text.nd (ve_op or_add od_add (ve_callTy call_str_int cd_str (by rfl) T.b_str (by decide +kernel) (va_cons (ve_op op_fdiv od_div (ve_name 3) (ve_name 5)) va_nil)) (ve_name 4))))) (vs_aft (ws := []) vs_nil))
      (vs_one (vs_set (i := 3) sc_units_text.nd (ve_frz (ve_op op_mod od_mod (ve_name 3) (ve_name 5)))))))))
      (vs_one (vs_retW (ve_if (vt_cmp (or_eq hr.units) od_eq (ve_name 2) ve_str (nomark _)) (ve_frz (ve_op or_add od_add ve_str (ve_ix ix_seq od_ix (ve_ix ix_seq od_ix (ve_name 1) (ve_un un_neg ud_neg ve_int) (fun _ _ => rfl)) ve_int (fun _ _ => rfl)))) (ve_frz (ve_name 2)))))))))
def P_units_text (number : Int) (units : (List (Str × Int))) : Option Str :=
  (some ("" : Str)).bind fun found1 =>
  (forP (P_units_text_b2 ) units (found1, number)).bind fun s8 =>
  if decide (s8.1 = ("" : Str)) = true then
    (pIx units (-1)).bind fun t9 =>
    (pCatS ("0" : Str) t9.1).bind fun t10 =>
    some t10
  else
    some s8.1
theorem q_units_text (number : Int) (units : (List (Str × Int))) : fm_units_text [.val (eI number), .val ((eV (eT2 eS eI)) units)] = (P_units_text number units).map fun z => (.dat (eS z), [.no, .no]) := by
  unfold fm_units_text m_units_text P_units_text
  refine c_fm (oR := fun z : Str => .dat (eS z)) (eR := fun z => [.no, .no, .no, .no, .no, .no]) [.val (eI number), .val ((eV (eT2 eS eI)) units), .no, .no, .no, .no] rfl rfl ?_ (fun _ => rfl) (fun _ => by walk_at "ik") (fun _ => rfl)
  walk_at "~seq set frz c frzD"
  refine c_setDL (τ := Str) eS ("" : Str) (fun found1 => [.val (eI number), .val ((eV (eT2 eS eI)) units), .val (eS found1), .no, .no, .no]) (fun _ => rfl) fun found1 => ?_
  walk_at "~seqN seq set frz nameV:1 frzD"
  refine c_setD (e2 := [.val (eI number), .val ((eV (eT2 eS eI)) units), .val (eS found1), .val (eI number), .no, .no]) rfl ?_
  walk_at "~seqN seq"
  refine c_bef (e2 := [.val (eI number), .val ((eV (eT2 eS eI)) units), .val (eS found1), .val (eI number), .no, .no]) rfl ?_
  walk_at "~for itT nameV:1 frzD itTK"
  refine c_loop (E := fun sE : (Str × Int) => [.val (eI number), .val ((eV (eT2 eS eI)) units), .val (eS sE.1), .val (eI sE.2), .no, .no]) (forL_P (E := fun sE : (Str × Int) => [.val (eI number), .val ((eV (eT2 eS eI)) units), .val (eS sE.1), .val (eI sE.2), .no, .no]) (ec := (eT2 eS eI)) (s_units_text_b2 (.val (eI number)) (.val ((eV (eT2 eS eI)) units))) _ (found1, number)) fun s8 => ?_
  walk_at "~seqN ret if test op nameV:1 c opK:2"
  refine c_pur x_eqS0 ?_
  walk_at "~testK"
  refine c_ite ?_ ?_
  · refine c_frz ?_
    walk_at "~op c op op nameV:1 un c unK:1"
    refine c_pur x_neg ?_
    walk_at "~opK:2"
    refine c_cal (x_ixV (e := (eT2 eS eI)) (l := units)) fun t9 => ?_
    walk_at "~c opK:2"
    refine c_pur (x_ixT rfl) ?_
    walk_at "~opK:2"
    refine c_cal x_catS fun t10 => ?_
    walk_at "~frzD"
    refine c_retK (.dat (eS t10)) rfl (e2 := [.no, .no, .no, .no, .no, .no]) rfl ?_
    exact rfl
  · refine c_frz ?_
    walk_at "~nameV:1 frzD"
    refine c_retK (.dat (eS s8.1)) rfl (e2 := [.no, .no, .no, .no, .no, .no]) rfl ?_
    exact rfl
def m_units_in_b1 : MS := (mAft [4, 5, 6, 7, 8, 9] (mSeq (mAsg (mBM "str" gPartition (mName 3) (mCons (mName 4) mNil)) (mgTup (mgCons (mgName 6) (mgCons (mgName 7) (mgCons (mgName 8) mgNil)))))
    (mIfS (mTest (mOp (gEq false) (mName 7) (mName 4))) (mSeq (mSet 9 (mFrz (mCallF fm_plain_number none (mCons (mName 6) mNil))))
    (mSeq (mIfS (mTest (mOp (gIsN false) (mName 9) (mC .none))) (mRetW [0, 1, 2, 3, 4, 5, 6, 7, 8, 9] (mC .none)) mSkip)
    (mSeq (mAugI 2 (fun i j => i + j) (mOp gMul (mName 9) (mName 5)))
    (mSet 3 (mFrz (mName 8)))))) mSkip)))
def P_units_in_b2  (xx : (Str × Int)) (ss : (Int × Str)) : Option (Fw (Option Int) (Int × Str)) :=
  (pPartition ss.2 xx.1).bind fun t1 =>
  if decide (t1.2.1 = xx.1) = true then
    (P_plain_number t1.1).bind fun r2 =>
    Option.elim r2
      (some (.rt (none : (Option Int))))
      fun v3 =>
      (pMul v3 xx.2).bind fun t5 =>
      (some (ss.1 + t5)).bind fun found6 =>
      some (.nx (found6, t1.2.2))
  else
    some (.nx (ss.1, ss.2))
theorem s_units_in_b2 (o0 : Slot) (o1 : Slot) (xx : (Str × Int)) (ss : (Int × Str)) : ((mgTup (mgCons (mgName 4) (mgCons (mgName 5) mgNil))) ((eT2 eS eI) xx) [o0, o1, .val (eI ss.1), .val (eS ss.2), .no, .no, .no, .no, .no, .no]).bind m_units_in_b1 = (P_units_in_b2  xx ss).map (outB (fun z : (Option Int) => .dat ((eO eI) z)) (fun z => [.no, .no, .no, .no, .no, .no, .no, .no, .no, .no]) (fun ss : (Int × Str) => [o0, o1, .val (eI ss.1), .val (eS ss.2), .no, .no, .no, .no, .no, .no])) := c_body (by
  unfold P_units_in_b2 m_units_in_b1
  walk_at "~gtup gcons"
  refine c_gname (e2 := [o0, o1, .val (eI ss.1), .val (eS ss.2), .val (eS xx.1), .no, .no, .no, .no, .no]) rfl ?_
  walk_at "~gcons"
  refine c_gname (e2 := [o0, o1, .val (eI ss.1), .val (eS ss.2), .val (eS xx.1), .val (eI xx.2), .no, .no, .no, .no]) rfl ?_
  walk_at "~gnil aft seq asg bm nameV:1"
  refine c_bmK _ rfl rfl ?_
  walk_at "~cons nameV:1 nil"
  refine c_bmK2 _ _ rfl rfl ?_
  refine c_cal x_partition fun t1 => ?_
  walk_at "~frzD asgK gtup gcons"
  refine c_gname (e2 := [o0, o1, .val (eI ss.1), .val (eS ss.2), .val (eS xx.1), .val (eI xx.2), .val (eS t1.1), .no, .no, .no]) rfl ?_
  walk_at "~gcons"
  refine c_gname (e2 := [o0, o1, .val (eI ss.1), .val (eS ss.2), .val (eS xx.1), .val (eI xx.2), .val (eS t1.1), .val (eS t1.2.1), .no, .no]) rfl ?_
  walk_at "~gcons"
  refine c_gname (e2 := [o0, o1, .val (eI ss.1), .val (eS ss.2), .val (eS xx.1), .val (eI xx.2), .val (eS t1.1), .val (eS t1.2.1), .val (eS t1.2.2), .no]) rfl ?_
  walk_at "~gnil seqN ifS test op nameV:1 nameV:1 opK:2"
  refine c_pur x_eqS0 ?_
  walk_at "~testK"
  refine c_ite ?_ ?_
  · refine c_seq ?_
    walk_at "~set frz callF cons nameV:1 nil"
    refine c_callK (bk := fun r2 => [o0, o1, .val (eI ss.1), .val (eS ss.2), .val (eS xx.1), .val (eI xx.2), .val (eS t1.1), .val (eS t1.2.1), .val (eS t1.2.2), .no]) rfl rfl (q_plain_number t1.1) (fun _ => by walk_at "fl") (fun _ => rfl) fun r2 => ?_
    walk_at "~frzD"
    refine c_setD (e2 := [o0, o1, .val (eI ss.1), .val (eS ss.2), .val (eS xx.1), .val (eI xx.2), .val (eS t1.1), .val (eS t1.2.1), .val (eS t1.2.2), .val ((eO eI) r2)]) rfl ?_
    walk_at "~seqN seq ifS test op nameV:1 c opK:2"
    refine c_pur (x_isNO0 (h := fun _ => rfl)) ?_
    walk_at "~testK"
    refine c_isN (fun h4 => ?_) (fun v3 h4 => ?_)
    · rw [h4]
      walk_at "~ret c"
      refine c_retK (.dat ((eO eI) (none : (Option Int)))) rfl (e2 := [.no, .no, .no, .no, .no, .no, .no, .no, .no, .no]) rfl ?_
      walk_at "~seqR aftR"
      exact rfl
    · rw [h4]
      walk_at "~skip seqN seq aug:1 op nameV:1 nameV:1 opK:2"
      refine c_cal x_mul fun t5 => ?_
      refine c_augL (f := fun i j => i + j) (x := ss.1) (y := t5) (fun found6 => [o0, o1, .val (eI found6), .val (eS ss.2), .val (eS xx.1), .val (eI xx.2), .val (eS t1.1), .val (eS t1.2.1), .val (eS t1.2.2), .val (eI v3)]) (fun _ => rfl) fun found6 => ?_
      walk_at "~seqN set frz nameV:1 frzD"
      refine c_setD (e2 := [o0, o1, .val (eI found6), .val (eS t1.2.2), .val (eS xx.1), .val (eI xx.2), .val (eS t1.1), .val (eS t1.2.1), .val (eS t1.2.2), .val (eI v3)]) rfl ?_
      refine c_aftN (e2 := [o0, o1, .val (eI found6), .val (eS t1.2.2), .no, .no, .no, .no, .no, .no]) rfl ?_
      exact rfl
  · refine c_skip ?_
    refine c_aftN (e2 := [o0, o1, .val (eI ss.1), .val (eS ss.2), .no, .no, .no, .no, .no, .no]) rfl ?_
    exact rfl)
def m_units_in : MS := (mSeq (mSet 2 (mFrz (mC (.int 0))))
    (mSeq (mSet 3 (mFrz (mName 0)))
    (mSeq (mBef [4, 5, 6, 7, 8, 9] (mFor (mItT (mName 1)) (mgTup (mgCons (mgName 4) (mgCons (mgName 5) mgNil))) m_units_in_b1))
    (mRetW [0, 1, 2, 3, 4, 5, 6, 7, 8, 9] (mIf (mAnd (mTest (mOp (gEq false) (mName 3) (mC (.str "")))) (mTest (mOp (gEq false) (mCallF fm_units_text none (mCons (mName 2) (mCons (mName 1) mNil))) (mName 0)))) (mFrz (mName 2)) (mFrz (mC .none)))))))
def fm_units_in : FM := fmOf 2 10 m_units_in
theorem ok_units_in (T : Tx w K mg fd) : FnOk P w K mg base CX0 2 (He.ga K "units_in") (fd 10) ["text", "units"] (spF K fm_units_in) :=
  fn_ok T.F_units_in sc_units_in fun cdv A outer s H E hr => (show VSs _ _ m_units_in from (vs_cons (vs_set (i := 2) sc_units_in.nd (ve_frz ve_int))
      (vs_cons (vs_set (i := 3) sc_units_in.nd (ve_frz (ve_name 0)))
      (vs_cons (vs_bef (ws := [4, 5, 6, 7, 8, 9]) (vs_for PassesOwn.never (vi_tup (ve_name 1)) (vg_tup (vgs_cons (vg_name (j := 4) sc_units_in.nd) (vgs_cons (vg_name (j := 5) sc_units_in.nd) vgs_nil)) (mgcons_len (mgcons_len mgnil_len))) (vs_aft (ws := [4, 5, 6, 7, 8, 9]) (vs_cons (vs_asg (ve_bm PySem.F.plainAttrs_str PySem.F.slot_str_partition PySem.F.type_str_partition mt_partition mtd_partition (ve_name 3) (va_cons (ve_name 4) va_nil)) (vg_tup (vgs_cons (vg_name (j := 6) sc_units_in.nd) (vgs_cons (vg_name (j := 7) sc_units_in.nd) (vgs_cons (vg_name (j := 8) sc_units_in.nd) vgs_nil))) (mgcons_len (mgcons_len (mgcons_len mgnil_len)))))
      (vs_one (vs_if (vt_cmp (or_eq hr.units) od_eq (ve_name 7) (ve_name 4) (nomark _)) (vs_cons (vs_set (i := 9) sc_units_in.nd (ve_frz (ve_callF none (FnOk.mono (ok_plain_number T) (by decide)) hr T.g_plain_number T.F_plain_number.kp (bi_plain_number T) (va_cons (ve_name 6) va_nil))))
      (vs_cons (vs_if (vt_cmp op_isN od_isN (ve_name 9) ve_non (nomark _)) (vs_one (vs_retW ve_non)) vs_nil)
      (vs_cons (vs_augI (i := 2) ip_add sc_units_in.nd (ve_op or_mul od_mul (ve_name 9) (ve_name 5)))
      (vs_one (vs_set (i := 3) sc_units_in.nd (ve_frz (ve_name 8))))))) vs_nil))))))
      (vs_one (vs_retW (ve_if (vt_w (vw_and (vt_cmp (or_eq hr.units) od_eq (ve_name 3) ve_str (nomark _)) (vw_and1 (vt_cmp (or_eq hr.units) od_eq (ve_callF none (FnOk.mono (ok_units_text T) (by decide)) hr T.g_units_text T.F_units_text.kp (bi_units_text T) (va_cons (ve_name 2) (va_cons (ve_name 1) va_nil))) (ve_name 0) (nomark _))))) (ve_frz (ve_name 2)) (ve_frz ve_non))))))))
def P_units_in (text : Str) (units : (List (Str × Int))) : Option (Option Int) :=
  (forR (P_units_in_b2 ) units (0, text)).bind fun w8 => w8.on (fun z => some z) fun s7 =>
    (if decide (s7.2 = ("" : Str)) = true then
      (P_units_text s7.1 units).bind fun r9 =>
      some (decide (r9 = text))
    else
      some false).bind fun z10 =>
    if z10 = true then
      some (some s7.1)
    else
      some (none : (Option Int))
theorem q_units_in (text : Str) (units : (List (Str × Int))) : fm_units_in [.val (eS text), .val ((eV (eT2 eS eI)) units)] = (P_units_in text units).map fun z => (.dat ((eO eI) z), [.no, .no]) := by
  unfold fm_units_in m_units_in P_units_in
  refine c_fm (oR := fun z : (Option Int) => .dat ((eO eI) z)) (eR := fun z => [.no, .no, .no, .no, .no, .no, .no, .no, .no, .no]) [.val (eS text), .val ((eV (eT2 eS eI)) units), .no, .no, .no, .no, .no, .no, .no, .no] rfl rfl ?_ (fun _ => rfl) (fun _ => by walk_at "ik") (fun _ => rfl)
  walk_at "~seq set frz c frzD"
  refine c_setD (e2 := [.val (eS text), .val ((eV (eT2 eS eI)) units), .val (eI 0), .no, .no, .no, .no, .no, .no, .no]) rfl ?_
  walk_at "~seqN seq set frz nameV:1 frzD"
  refine c_setD (e2 := [.val (eS text), .val ((eV (eT2 eS eI)) units), .val (eI 0), .val (eS text), .no, .no, .no, .no, .no, .no]) rfl ?_
  walk_at "~seqN seq"
  refine c_bef (e2 := [.val (eS text), .val ((eV (eT2 eS eI)) units), .val (eI 0), .val (eS text), .no, .no, .no, .no, .no, .no]) rfl ?_
  walk_at "~for itT nameV:1 frzD itTK"
  refine c_loopR (E := fun sE : (Int × Str) => [.val (eS text), .val ((eV (eT2 eS eI)) units), .val (eI sE.1), .val (eS sE.2), .no, .no, .no, .no, .no, .no]) (oR := fun z : (Option Int) => .dat ((eO eI) z)) (eR := fun z => [.no, .no, .no, .no, .no, .no, .no, .no, .no, .no]) (forL_R (E := fun sE : (Int × Str) => [.val (eS text), .val ((eV (eT2 eS eI)) units), .val (eI sE.1), .val (eS sE.2), .no, .no, .no, .no, .no, .no]) (oR := fun z : (Option Int) => .dat ((eO eI) z)) (eR := fun z => [.no, .no, .no, .no, .no, .no, .no, .no, .no, .no]) (ec := (eT2 eS eI)) (s_units_in_b2 (.val (eS text)) (.val ((eV (eT2 eS eI)) units))) _ (0, text)) (fun z => ?_) (fun s7 => ?_)
  · refine c_seqR ?_
    exact rfl
  · refine c_seqN ?_
    walk_at "~ret if andB test op nameV:1 c opK:2"
    refine c_pur x_eqS0 ?_
    walk_at "~testK"
    refine c_ifJ (fun z10 => (z10, [.val (eS text), .val ((eV (eT2 eS eI)) units), .val (eI s7.1), .val (eS s7.2), .no, .no, .no, .no, .no, .no])) ?_ ?_ fun z10 => ?_
    · refine c_test ?_
      walk_at "~op callF cons nameV:1 cons nameV:1 nil"
      refine c_callK (bk := fun r9 => [.val (eS text), .val ((eV (eT2 eS eI)) units), .val (eI s7.1), .val (eS s7.2), .no, .no, .no, .no, .no, .no]) rfl rfl (q_units_text s7.1 units) (fun _ => by walk_at "fl") (fun _ => rfl) fun r9 => ?_
      walk_at "~nameV:1 opK:2"
      refine c_pur x_eqS0 ?_
      walk_at "~testK"
      exact rfl
    · exact rfl
    refine c_ite ?_ ?_
    · refine c_frz ?_
      walk_at "~nameV:1 frzD"
      refine c_retK (.dat ((eO eI) (some s7.1))) rfl (e2 := [.no, .no, .no, .no, .no, .no, .no, .no, .no, .no]) rfl ?_
      exact rfl
    · refine c_frz ?_
      walk_at "~c frzD"
      refine c_retK (.dat ((eO eI) (none : (Option Int)))) rfl (e2 := [.no, .no, .no, .no, .no, .no, .no, .no, .no, .no]) rfl ?_
      exact rfl
def m_weight_in : MS := (mRetW [0] (mCallF fm_units_in none (mCons (mName 0) (mCons (mC c_WEIGHT_UNITS) mNil))))
def fm_weight_in : FM := fmOf 1 1 m_weight_in
theorem ok_weight_in (T : Tx w K mg fd) : FnOk P w K mg base CX0 3 (He.ga K "weight_in") (fd 11) ["text"] (spF K fm_weight_in) :=
  fn_ok T.F_weight_in sc_weight_in fun cdv A outer s H E hr => (show VSs _ _ m_weight_in from (vs_one (vs_retW (ve_callF none (FnOk.mono (ok_units_in T) (by decide)) hr T.g_units_in T.F_units_in.kp (bi_units_in T) (va_cons (ve_name 0) (va_cons (ve_c_WEIGHT_UNITS T) va_nil))))))
def P_weight_in (text : Str) : Option (Option Int) :=
  (P_units_in text v_WEIGHT_UNITS).bind fun r1 =>
  some r1
theorem q_weight_in (text : Str) : fm_weight_in [.val (eS text)] = (P_weight_in text).map fun z => (.dat ((eO eI) z), [.no]) := by
  unfold fm_weight_in m_weight_in P_weight_in
  refine c_fm (oR := fun z : (Option Int) => .dat ((eO eI) z)) (eR := fun z => [.no]) [.val (eS text)] rfl rfl ?_ (fun _ => rfl) (fun _ => by walk_at "ik") (fun _ => rfl)
  walk_at "~ret callF cons nameV:1 cons c nil"
  refine c_callK (bk := fun r1 => [.val (eS text)]) rfl rfl (q_units_in text v_WEIGHT_UNITS) (fun _ => by walk_at "fl") (fun _ => rfl) fun r1 => ?_
  refine c_retK (.dat ((eO eI) r1)) rfl (e2 := [.no]) rfl ?_
  exact rfl
def m_length_in : MS := (mRetW [0] (mCallF fm_units_in none (mCons (mName 0) (mCons (mC c_LENGTH_UNITS) mNil))))
def fm_length_in : FM := fmOf 1 1 m_length_in
theorem ok_length_in (T : Tx w K mg fd) : FnOk P w K mg base CX0 3 (He.ga K "length_in") (fd 12) ["text"] (spF K fm_length_in) :=
  fn_ok T.F_length_in sc_length_in fun cdv A outer s H E hr => (show VSs _ _ m_length_in from (vs_one (vs_retW (ve_callF none (FnOk.mono (ok_units_in T) (by decide)) hr T.g_units_in T.F_units_in.kp (bi_units_in T) (va_cons (ve_name 0) (va_cons (ve_c_LENGTH_UNITS T) va_nil))))))
def P_length_in (text : Str) : Option (Option Int) :=
  (P_units_in text v_LENGTH_UNITS).bind fun r1 =>
  some r1
theorem q_length_in (text : Str) : fm_length_in [.val (eS text)] = (P_length_in text).map fun z => (.dat ((eO eI) z), [.no]) := by
  unfold fm_length_in m_length_in P_length_in
  refine c_fm (oR := fun z : (Option Int) => .dat ((eO eI) z)) (eR := fun z => [.no]) [.val (eS text)] rfl rfl ?_ (fun _ => rfl) (fun _ => by walk_at "ik") (fun _ => rfl)
  walk_at "~ret callF cons nameV:1 cons c nil"
  refine c_callK (bk := fun r1 => [.val (eS text)]) rfl rfl (q_units_in text v_LENGTH_UNITS) (fun _ => by walk_at "fl") (fun _ => rfl) fun r1 => ?_
  refine c_retK (.dat ((eO eI) r1)) rfl (e2 := [.no]) rfl ?_
  exact rfl
def m_w_same_e1 (fm : FM) : ME := (mCallF fm none (mCons (mName 2) (mCons (mName 3) mNil)))
def P_w_same_l2 (pf : PyData → PyData → Option Bool)  (y10 : (PyData × PyData)) : Option Bool :=
  (pf y10.1 y10.2).bind fun r11 =>
  some r11
theorem s_w_same_l2 (fm : FM) (pf : PyData → PyData → Option Bool) (hq : ∀ (found : PyData) (due : PyData), fm [.val (eD found), .val (eD due)] = (pf found due).map fun z => (.dat (eB z), [.no, .no])) (o0 : Slot) (o1 : Slot) (y10 : (PyData × PyData)) : lcStep (mgTup (mgCons (mgName 2) (mgCons (mgName 3) mgNil))) mYes (m_w_same_e1 fm) [2, 3] ((eT2 eD eD) y10) [o0, o1, .no, .no] = (P_w_same_l2 pf  y10).map fun z => (some (eB z), [o0, o1, .no, .no]) := c_stepM (α := Unit) (by
  unfold P_w_same_l2
  walk_at "~gtup gcons"
  refine c_gname (e2 := [o0, o1, .val (eD y10.1), .no]) rfl ?_
  walk_at "~gcons"
  refine c_gname (e2 := [o0, o1, .val (eD y10.1), .val (eD y10.2)]) rfl ?_
  walk_at "~gnil yes iteT bb callF cons nameV:1 cons nameV:1 nil"
  refine c_callK (bk := fun r11 => [o0, o1, .val (eD y10.1), .val (eD y10.2)]) rfl rfl (hq y10.1 y10.2) (fun _ => by walk_at "fl") (fun _ => rfl) fun r11 => ?_
  walk_at "~frzD"
  refine c_elt (e1 := [o0, o1, .no, .no]) rfl ?_
  exact rfl)
def m_w_same (fm : FM) : MS := (mSeq (mIfS (mTest (mIsi2 "list" "tuple" (mName 1))) (mSeq (mIfS (mOr (mTest (mOp (gEq true) (mIsi "list" (mName 0)) (mIsi "list" (mName 1)))) (mTest (mOp (gEq true) (mIsi "tuple" (mName 0)) (mIsi "tuple" (mName 1))))) (mRetW [0, 1, 2, 3] (mC (.bool false))) mSkip)
    (mRetW [0, 1, 2, 3] (mAndV (mOp (gEq false) (mCB gLen (mCons (mName 0) mNil)) (mCB gLen (mCons (mName 1) mNil))) (mCB gAll (mCons (mLc (mZipA (mCons (mFrz (mName 0)) (mCons (mFrz (mName 1)) mNil))) (mgTup (mgCons (mgName 2) (mgCons (mgName 3) mgNil))) mYes (m_w_same_e1 fm) [2, 3]) mNil))))) mSkip)
    (mSeq (mIfS (mOr (mTest (mOp (gIsN false) (mName 1) (mC .none))) (mTest (mOp (gIsN false) (mName 0) (mC .none)))) (mRetW [0, 1, 2, 3] (mAndV (mOp (gIsN false) (mName 1) (mC .none)) (mOp (gIsN false) (mName 0) (mC .none)))) mSkip)
    (mSeq (mIfS (mOr (mTest (mIsi "bool" (mName 1))) (mTest (mIsi "str" (mName 1)))) (mRetW [0, 1, 2, 3] (mAndV (mOp (gEq false) (mIsi "bool" (mName 0)) (mIsi "bool" (mName 1))) (mOp (gEq false) (mName 0) (mName 1)))) mSkip)
    (mRetW [0, 1, 2, 3] (mAndV (mIsi "int" (mName 0)) (mAndV (mNotV (mIsi "bool" (mName 0))) (mOp (gEq false) (mName 0) (mName 1))))))))
def fm_w_same : Nat → FM
  | 0 => fun _ => none
  | n + 1 => fmOf 2 4 (m_w_same (fm_w_same n))
theorem ok_w_same (T : Tx w K mg fd) : ∀ n : Nat, FnOk P w K mg base CX0 (n + 1) (He.ga K "_law_same") (fd 13) ["_law_found", "_law_due"] (spF K (fm_w_same n))
  | 0 => ok_no
  | n + 1 => (FnOk.mono (fn_ok (k := n + 1) T.F_w_same sc_w_same fun cdv A outer s H E hr => (show VSs _ _ (m_w_same (fm_w_same n)) from (vs_cons (vs_if (vt_val (ve_isi2 (ve_name 1) T.b_isinstance T.b_list (by decide +kernel) T.b_tuple (by decide +kernel))) (vs_cons (vs_if (vt_w (vw_or (vt_cmp (or_ne hr.units) od_ne (ve_isi (ve_name 0) T.b_isinstance T.b_list (by decide +kernel)) (ve_isi (ve_name 1) T.b_isinstance T.b_list (by decide +kernel)) (nomark _)) (vw_or1 (vt_cmp (or_ne hr.units) od_ne (ve_isi (ve_name 0) T.b_isinstance T.b_tuple (by decide +kernel)) (ve_isi (ve_name 1) T.b_isinstance T.b_tuple (by decide +kernel)) (nomark _))))) (vs_one (vs_retW ve_bl)) vs_nil)
      (vs_one (vs_retW (ve_and (ve_cmp (or_eq hr.units) od_eq (ve_callB call_len cd_len (by rfl) T.b_len PySem.boot_len (va_cons (ve_name 0) va_nil)) (ve_callB call_len cd_len (by rfl) T.b_len PySem.boot_len (va_cons (ve_name 1) va_nil)) (nomark _)) (ve_one (ve_callB (cr_all rfl) cd_all (by rfl) T.b_all (by decide +kernel) (va_cons (ve_lc (own := [("_law_one", 2), ("_law_other", 3)]) sc_w_same.nd (vi_zipA T.b_zip (va_cons (ve_frz (ve_name 0)) (va_cons (ve_frz (ve_name 1)) va_nil))) (blkOk_by (own := [("_law_one", 2), ("_law_other", 3)]) (N := ["_law_found", "_law_due", "_law_one", "_law_other"]) (sc := defScope s_w_same) (by decide +kernel)) (fun _ _ _ _ _ => (vg_tup (vgs_cons (vg_name (j := 2) sc_w_same.nd) (vgs_cons (vg_name (j := 3) sc_w_same.nd) vgs_nil)) (mgcons_len (mgcons_len mgnil_len)))) (fun _ _ _ _ _ => vts_nil) (fun _ _ _ _ _ => (ve_callF none (ok_w_same T n) hr T.g_w_same T.F_w_same.kp (bi_w_same T) (va_cons (ve_name 2) (va_cons (ve_name 3) va_nil)))) (by decide)) va_nil))))))) vs_nil)
      (vs_cons (vs_if (vt_w (vw_or (vt_cmp op_isN od_isN (ve_name 1) ve_non (nomark _)) (vw_or1 (vt_cmp op_isN od_isN (ve_name 0) ve_non (nomark _))))) (vs_one (vs_retW (ve_and (ve_cmp op_isN od_isN (ve_name 1) ve_non (nomark _)) (ve_one (ve_cmp op_isN od_isN (ve_name 0) ve_non (nomark _)))))) vs_nil)
      (vs_cons (vs_if (vt_w (vw_or (vt_val (ve_isi (ve_name 1) T.b_isinstance T.b_bool (by decide +kernel))) (vw_or1 (vt_val (ve_isi (ve_name 1) T.b_isinstance T.b_str (by decide +kernel)))))) (vs_one (vs_retW (ve_and (ve_cmp (or_eq hr.units) od_eq (ve_isi (ve_name 0) T.b_isinstance T.b_bool (by decide +kernel)) (ve_isi (ve_name 1) T.b_isinstance T.b_bool (by decide +kernel)) (nomark _)) (ve_one (ve_cmp (or_eq hr.units) od_eq (ve_name 0) (ve_name 1) (nomark _)))))) vs_nil)
      (vs_one (vs_retW (ve_and (ve_isi (ve_name 0) T.b_isinstance T.b_int (by decide +kernel)) (ve_and (ve_not (ve_isi (ve_name 0) T.b_isinstance T.b_bool (by decide +kernel))) (ve_one (ve_cmp (or_eq hr.units) od_eq (ve_name 0) (ve_name 1) (nomark _)))))))))))) (by omega))
def P_w_same_0 (pf : PyData → PyData → Option Bool) (found : PyData) (due : PyData) : Option Bool :=
  (pIsi2 "list" "tuple" due).bind fun t1 =>
  if t1 = true then
    (pIsi "list" found).bind fun t2 =>
    (pIsi "list" due).bind fun t3 =>
    (if (!decide (t2 = t3)) = true then
      some true
    else
      (pIsi "tuple" found).bind fun t4 =>
      (pIsi "tuple" due).bind fun t5 =>
      some (!decide (t4 = t5))).bind fun z6 =>
    if z6 = true then
      some false
    else
      (pLenD found).bind fun t7 =>
      (pLenD due).bind fun t8 =>
      (if decide (t7 = t8) = true then
        (pZipA found due).bind fun l9 =>
        (gd (l9.length ≤ 100000)).bind fun _ =>
        (mapO (P_w_same_l2 pf ) l9).bind fun l12 =>
        some (l12.all id)
      else
        some false).bind fun z13 =>
      some z13
  else
    if ((pIsN false due) || (pIsN false found)) = true then
      some ((pIsN false due) && (pIsN false found))
    else
      (pIsi "bool" due).bind fun t14 =>
      (if t14 = true then
        some true
      else
        (pIsi "str" due).bind fun t15 =>
        some t15).bind fun z16 =>
      if z16 = true then
        (pIsi "bool" found).bind fun t17 =>
        (pIsi "bool" due).bind fun t18 =>
        (if decide (t17 = t18) = true then
          (pEqD false found due).bind fun t19 =>
          some t19
        else
          some false).bind fun z20 =>
        some z20
      else
        (pIsi "int" found).bind fun t21 =>
        (if t21 = true then
          (pIsi "bool" found).bind fun t22 =>
          (if (!t22) = true then
            (pEqD false found due).bind fun t23 =>
            some t23
          else
            some false).bind fun z24 =>
          some z24
        else
          some false).bind fun z25 =>
        some z25
def P_w_same : Nat → PyData → PyData → Option Bool
  | 0 => fun _ _ => none
  | n + 1 => P_w_same_0 (P_w_same n)
theorem q_w_same_0 (fm : FM) (pf : PyData → PyData → Option Bool) (hq : ∀ (found : PyData) (due : PyData), fm [.val (eD found), .val (eD due)] = (pf found due).map fun z => (.dat (eB z), [.no, .no])) (found : PyData) (due : PyData) : fmOf 2 4 (m_w_same fm) [.val (eD found), .val (eD due)] = (P_w_same_0 pf found due).map fun z => (.dat (eB z), [.no, .no]) := by
  unfold m_w_same P_w_same_0
  refine c_fm (oR := fun z : Bool => .dat (eB z)) (eR := fun z => [.no, .no, .no, .no]) [.val (eD found), .val (eD due), .no, .no] rfl rfl ?_ (fun _ => rfl) (fun _ => by walk_at "ik") (fun _ => rfl)
  walk_at "~seq ifS test isi2 nameV:1"
  refine c_isi2K rfl fun t1 => ?_
  walk_at "~testK"
  refine c_ite ?_ ?_
  · refine c_seq ?_
    walk_at "~ifS orB test op isi nameV:1"
    refine c_isiK rfl fun t2 => ?_
    walk_at "~isi nameV:1"
    refine c_isiK rfl fun t3 => ?_
    walk_at "~opK:2"
    refine c_pur x_eqB1 ?_
    walk_at "~testK"
    refine c_ifJ (fun z6 => (z6, [.val (eD found), .val (eD due), .no, .no])) ?_ ?_ fun z6 => ?_
    · exact rfl
    · refine c_test ?_
      walk_at "~op isi nameV:1"
      refine c_isiK rfl fun t4 => ?_
      walk_at "~isi nameV:1"
      refine c_isiK rfl fun t5 => ?_
      walk_at "~opK:2"
      refine c_pur x_eqB1 ?_
      walk_at "~testK"
      exact rfl
    refine c_ite ?_ ?_
    · refine c_ret ?_
      walk_at "~c"
      refine c_retK (.dat (eB false)) rfl (e2 := [.no, .no, .no, .no]) rfl ?_
      walk_at "~seqR seqR"
      exact rfl
    · refine c_skip ?_
      walk_at "~seqN ret andV op cb cons nameV:1 nil"
      refine c_cbK _ rfl ?_
      refine c_cal x_lenD fun t7 => ?_
      walk_at "~cb cons nameV:1 nil"
      refine c_cbK _ rfl ?_
      refine c_cal x_lenD fun t8 => ?_
      walk_at "~opK:2"
      refine c_pur x_eqI0 ?_
      walk_at "~boolK"
      refine c_ifJ (fun z13 => (.dat (.bool z13), [.val (eD found), .val (eD due), .no, .no])) ?_ ?_ fun z13 => ?_
      · refine c_cb ?_
        walk_at "~cons lc zipA cons frz nameV:1 frzD cons frz nameV:1 frzD nil"
        refine c_zipAK rfl fun l9 => ?_
        refine c_lcK (xs := l9) (ec := (eT2 eD eD)) (e1 := [.val (eD found), .val (eD due), .no, .no]) (by exact rfl) ?_
        refine c_cal2 (lc_mapO (s_w_same_l2 fm pf hq (.val (eD found)) (.val (eD due))) _) fun l12 => ?_
        walk_at "~nil"
        refine c_cbK _ rfl ?_
        refine c_pur (x_all (l := l12)) ?_
        exact rfl
      · exact rfl
      refine c_retK (.dat (eB z13)) rfl (e2 := [.no, .no, .no, .no]) rfl ?_
      walk_at "~seqR"
      exact rfl
  · refine c_skip ?_
    walk_at "~seqN seq ifS"
    refine c_orP (c_tot (by refine c_test ?_; refine c_op ?_; refine c_nameV rfl ?_; refine c_c ?_; refine c_opK rfl rfl ?_; refine c_pur x_isND ?_; refine c_testK ?_; exact rfl)) (c_tot (by refine c_test ?_; refine c_op ?_; refine c_nameV rfl ?_; refine c_c ?_; refine c_opK rfl rfl ?_; refine c_pur x_isND ?_; refine c_testK ?_; exact rfl)) ?_
    refine c_ite ?_ ?_
    · refine c_ret ?_
      refine c_andVP (c_tot (by refine c_op ?_; refine c_nameV rfl ?_; refine c_c ?_; refine c_opK rfl rfl ?_; refine c_pur x_isND ?_; exact rfl)) (c_tot (by refine c_op ?_; refine c_nameV rfl ?_; refine c_c ?_; refine c_opK rfl rfl ?_; refine c_pur x_isND ?_; exact rfl)) ?_
      refine c_retK (.dat (eB ((pIsN false due) && (pIsN false found)))) rfl (e2 := [.no, .no, .no, .no]) rfl ?_
      walk_at "~seqR"
      exact rfl
    · refine c_skip ?_
      walk_at "~seqN seq ifS orB test isi nameV:1"
      refine c_isiK rfl fun t14 => ?_
      walk_at "~testK"
      refine c_ifJ (fun z16 => (z16, [.val (eD found), .val (eD due), .no, .no])) ?_ ?_ fun z16 => ?_
      · exact rfl
      · refine c_test ?_
        walk_at "~isi nameV:1"
        refine c_isiK rfl fun t15 => ?_
        walk_at "~testK"
        exact rfl
      refine c_ite ?_ ?_
      · refine c_ret ?_
        walk_at "~andV op isi nameV:1"
        refine c_isiK rfl fun t17 => ?_
        walk_at "~isi nameV:1"
        refine c_isiK rfl fun t18 => ?_
        walk_at "~opK:2"
        refine c_pur x_eqB0 ?_
        walk_at "~boolK"
        refine c_ifJ (fun z20 => (.dat (.bool z20), [.val (eD found), .val (eD due), .no, .no])) ?_ ?_ fun z20 => ?_
        · refine c_op ?_
          walk_at "~nameV:1 nameV:1 opK:2"
          refine c_cal x_eqD fun t19 => ?_
          exact rfl
        · exact rfl
        refine c_retK (.dat (eB z20)) rfl (e2 := [.no, .no, .no, .no]) rfl ?_
        walk_at "~seqR"
        exact rfl
      · refine c_skip ?_
        walk_at "~seqN ret andV isi nameV:1"
        refine c_isiK rfl fun t21 => ?_
        walk_at "~boolK"
        refine c_ifJ (fun z25 => (.dat (.bool z25), [.val (eD found), .val (eD due), .no, .no])) ?_ ?_ fun z25 => ?_
        · refine c_andV ?_
          walk_at "~notV isi nameV:1"
          refine c_isiK rfl fun t22 => ?_
          walk_at "~boolK boolK"
          refine c_ifJ (fun z24 => (.dat (.bool z24), [.val (eD found), .val (eD due), .no, .no])) ?_ ?_ fun z24 => ?_
          · refine c_op ?_
            walk_at "~nameV:1 nameV:1 opK:2"
            refine c_cal x_eqD fun t23 => ?_
            exact rfl
          · exact rfl
          exact rfl
        · exact rfl
        refine c_retK (.dat (eB z25)) rfl (e2 := [.no, .no, .no, .no]) rfl ?_
        exact rfl
theorem q_w_same : ∀ (n : Nat) (found : PyData) (due : PyData), fm_w_same n [.val (eD found), .val (eD due)] = (P_w_same n found due).map fun z => (.dat (eB z), [.no, .no])
  | 0, _, _ => rfl
  | n + 1, found, due => q_w_same_0 (fm_w_same n) (P_w_same n) (fun found due => q_w_same n found due) found due
def m_law_b1 : MS := (mAft [6, 8] (mSeq (mSet 8 (mFrz (mCallF fm_w_spoilt (some 0) (mCons (mName 5) (mCons (mName 4) mNil)))))
    (mDrop (mMut 1 fApp (mCons (mFrz (mSl gSlS (mIf (mTest (mOp (gCmp fun i j => decide (j < i)) (mCallF fm_w_take (some 0) (mCons (mName 5) (mCons (mC (.int 3)) mNil))) (mC (.int 0)))) (mName 8) (mCallF fm_w_spoilt (some 0) (mCons (mName 5) (mCons (mName 8) mNil)))) mNoPart (mPart (mC (.int 60))))) mNil)))))
def P_law_b2 (text : Str) (xx : Int) (ss : ((List Str) × (List Int))) : Option ((List Str) × (List Int)) :=
  (P_w_spoilt ss.2 text).bind fun r15 =>
  (P_w_take r15.2 3).bind fun r16 =>
  (if decide (0 < r16.1) = true then
    some (r15.1, r16.2)
  else
    (P_w_spoilt r16.2 r15.1).bind fun r17 =>
    some (r17.1, r17.2)).bind fun z18 =>
  (pSlS z18.1 none (some 60)).bind fun t19 =>
  (pApp ss.1 t19).bind fun some_20 =>
  some (some_20, z18.2)
theorem s_law_b2 (o0 : Slot) (o2 : Slot) (o3 : Slot) (text : Str) (xx : Int) (ss : ((List Str) × (List Int))) : ((mgName 6) (eI xx) [o0, .own (.lst (ss.1.map eS)), o2, o3, .val (eS text), .own (.lst (ss.2.map eI)), .no, .no, .no]).bind m_law_b1 = (P_law_b2 text xx ss).map (outN (fun ss : ((List Str) × (List Int)) => [o0, .own (.lst (ss.1.map eS)), o2, o3, .val (eS text), .own (.lst (ss.2.map eI)), .no, .no, .no])) := c_body (by
  unfold P_law_b2 m_law_b1
  refine c_gname (e2 := [o0, .own (.lst (ss.1.map eS)), o2, o3, .val (eS text), .own (.lst (ss.2.map eI)), .val (eI xx), .no, .no]) rfl ?_
  walk_at "~aft seq set frz callF cons nameO:1 cons nameV:1 nil"
  refine c_callK (bk := fun r15 => [o0, .own (.lst (ss.1.map eS)), o2, o3, .val (eS text), .own (.lst (r15.2.map eI)), .val (eI xx), .no, .no]) rfl rfl (q_w_spoilt ss.2 text) (fun _ => by walk_at "fl") (fun _ => rfl) fun r15 => ?_
  walk_at "~frzD"
  refine c_setD (e2 := [o0, .own (.lst (ss.1.map eS)), o2, o3, .val (eS text), .own (.lst (r15.2.map eI)), .val (eI xx), .no, .val (eS r15.1)]) rfl ?_
  walk_at "~seqN drop mut:1 cons frz sl if test op callF cons nameO:1 cons c nil"
  refine c_callK (bk := fun r16 => [o0, .own (.lst (ss.1.map eS)), o2, o3, .val (eS text), .own (.lst (r16.2.map eI)), .val (eI xx), .no, .val (eS r15.1)]) rfl rfl (q_w_take r15.2 3) (fun _ => by walk_at "fl") (fun _ => rfl) fun r16 => ?_
  walk_at "~c opK:2"
  refine c_pur x_cmp ?_
  walk_at "~testK"
  refine c_ifJ (fun z18 => (.dat (eS z18.1), [o0, .own (.lst (ss.1.map eS)), o2, o3, .val (eS text), .own (.lst (z18.2.map eI)), .val (eI xx), .no, .val (eS r15.1)])) ?_ ?_ fun z18 => ?_
  · refine c_nameV rfl ?_
    exact rfl
  · refine c_callF ?_
    walk_at "~cons nameO:1 cons nameV:1 nil"
    refine c_callK (bk := fun r17 => [o0, .own (.lst (ss.1.map eS)), o2, o3, .val (eS text), .own (.lst (r17.2.map eI)), .val (eI xx), .no, .val (eS r15.1)]) rfl rfl (q_w_spoilt r16.2 r15.1) (fun _ => by walk_at "fl") (fun _ => rfl) fun r17 => ?_
    exact rfl
  walk_at "~noPart part c partK"
  refine c_slK _ rfl ?_
  refine c_cal x_slS fun t19 => ?_
  walk_at "~frzD nil"
  refine c_mutP [eS t19] (ss.1.map eS) (fun some_20 => [o0, .own (.lst (some_20.map eS)), o2, o3, .val (eS text), .own (.lst (z18.2.map eI)), .val (eI xx), .no, .val (eS r15.1)]) rfl rfl (x_app (e := eS) (l := ss.1) (x := t19)) (fun _ => rfl) fun some_20 => ?_
  refine c_aftN (e2 := [o0, .own (.lst (some_20.map eS)), o2, o3, .val (eS text), .own (.lst (z18.2.map eI)), .no, .no, .no]) rfl ?_
  exact rfl)
def m_law_b3 : MS := (mAft [3, 4, 5, 6, 8] (mSeq (mSet 5 (mCallF fm_w_box none (mCons (mName 2) (mCons (mName 3) mNil))))
    (mSeq (mSet 4 (mFrz (mIf (mTest (mOp (gEq false) (mCallF fm_w_take (some 0) (mCons (mName 5) (mCons (mC (.int 2)) mNil))) (mC (.int 0)))) (mCallF fm_w_word (some 0) (mCons (mName 5) (mCons (mTup (mCons (mFrz (mC (.int 112))) (mCons (mFrz (mC (.int 14))) mNil))) (mCons (mC (.str "csp")) mNil)))) (mCallF fm_w_word (some 0) (mCons (mName 5) (mCons (mTup (mCons (mFrz (mC (.int 320))) (mCons (mFrz (mC (.int 40))) mNil))) (mCons (mC (.str "mfr")) mNil)))))))
    (mSeq (mDrop (mMut 1 fApp (mCons (mFrz (mName 4)) mNil)))
    (mBef [6, 8] (mFor (mRange1 (mCons (mC (.int 12)) mNil)) (mgName 6) m_law_b1))))))
def P_law_b4 (cells : (List Int)) (xx : Int) (ss : (List Str)) : Option (List Str) :=
  (P_w_box cells xx).bind fun r8 =>
  (P_w_take r8 2).bind fun r9 =>
  (if decide (r9.1 = 0) = true then
    (P_w_word r9.2 (112, 14) ("csp" : Str)).bind fun r10 =>
    some (r10.1, r10.2)
  else
    (P_w_word r9.2 (320, 40) ("mfr" : Str)).bind fun r11 =>
    some (r11.1, r11.2)).bind fun z12 =>
  (pApp ss z12.1).bind fun some_13 =>
  (pRng 12).bind fun l14 =>
  (forP (P_law_b2 z12.1) l14 (some_13, z12.2)).bind fun s21 =>
  some s21.1
theorem s_law_b4 (o0 : Slot) (cells : (List Int)) (xx : Int) (ss : (List Str)) : ((mgName 3) (eI xx) [o0, .own (.lst (ss.map eS)), .val ((eL eI) cells), .no, .no, .no, .no, .no, .no]).bind m_law_b3 = (P_law_b4 cells xx ss).map (outN (fun ss : (List Str) => [o0, .own (.lst (ss.map eS)), .val ((eL eI) cells), .no, .no, .no, .no, .no, .no])) := c_body (by
  unfold P_law_b4 m_law_b3
  refine c_gname (e2 := [o0, .own (.lst (ss.map eS)), .val ((eL eI) cells), .val (eI xx), .no, .no, .no, .no, .no]) rfl ?_
  walk_at "~aft seq set callF cons nameV:1 cons nameV:1 nil"
  refine c_callK (bk := fun r8 => [o0, .own (.lst (ss.map eS)), .val ((eL eI) cells), .val (eI xx), .no, .no, .no, .no, .no]) rfl rfl (q_w_box cells xx) (fun _ => by walk_at "fl") (fun _ => rfl) fun r8 => ?_
  refine c_setN (e2 := [o0, .own (.lst (ss.map eS)), .val ((eL eI) cells), .val (eI xx), .no, .own (.lst (r8.map eI)), .no, .no, .no]) rfl ?_
  walk_at "~seqN seq set frz if test op callF cons nameO:1 cons c nil"
  refine c_callK (bk := fun r9 => [o0, .own (.lst (ss.map eS)), .val ((eL eI) cells), .val (eI xx), .no, .own (.lst (r9.2.map eI)), .no, .no, .no]) rfl rfl (q_w_take r8 2) (fun _ => by walk_at "fl") (fun _ => rfl) fun r9 => ?_
  walk_at "~c opK:2"
  refine c_pur x_eqI0 ?_
  walk_at "~testK"
  refine c_ifJ (fun z12 => (.dat (eS z12.1), [o0, .own (.lst (ss.map eS)), .val ((eL eI) cells), .val (eI xx), .no, .own (.lst (z12.2.map eI)), .no, .no, .no])) ?_ ?_ fun z12 => ?_
  · refine c_callF ?_
    walk_at "~cons nameO:1 cons tup cons frz c frzD cons frz c frzD nil"
    refine c_tupK _ rfl (Nat.le_of_ble_eq_true rfl) ?_
    walk_at "~cons c nil"
    refine c_callK (bk := fun r10 => [o0, .own (.lst (ss.map eS)), .val ((eL eI) cells), .val (eI xx), .no, .own (.lst (r10.2.map eI)), .no, .no, .no]) rfl rfl (q_w_word r9.2 (112, 14) ("csp" : Str)) (fun _ => by walk_at "fl") (fun _ => rfl) fun r10 => ?_
    exact rfl
  · refine c_callF ?_
    walk_at "~cons nameO:1 cons tup cons frz c frzD cons frz c frzD nil"
    refine c_tupK _ rfl (Nat.le_of_ble_eq_true rfl) ?_
    walk_at "~cons c nil"
    refine c_callK (bk := fun r11 => [o0, .own (.lst (ss.map eS)), .val ((eL eI) cells), .val (eI xx), .no, .own (.lst (r11.2.map eI)), .no, .no, .no]) rfl rfl (q_w_word r9.2 (320, 40) ("mfr" : Str)) (fun _ => by walk_at "fl") (fun _ => rfl) fun r11 => ?_
    exact rfl
  walk_at "~frzD"
  refine c_setD (e2 := [o0, .own (.lst (ss.map eS)), .val ((eL eI) cells), .val (eI xx), .val (eS z12.1), .own (.lst (z12.2.map eI)), .no, .no, .no]) rfl ?_
  walk_at "~seqN seq drop mut:1 cons frz nameV:1 frzD nil"
  refine c_mutP [eS z12.1] (ss.map eS) (fun some_13 => [o0, .own (.lst (some_13.map eS)), .val ((eL eI) cells), .val (eI xx), .val (eS z12.1), .own (.lst (z12.2.map eI)), .no, .no, .no]) rfl rfl (x_app (e := eS) (l := ss) (x := z12.1)) (fun _ => rfl) fun some_13 => ?_
  walk_at "~seqN"
  refine c_bef (e2 := [o0, .own (.lst (some_13.map eS)), .val ((eL eI) cells), .val (eI xx), .val (eS z12.1), .own (.lst (z12.2.map eI)), .no, .no, .no]) rfl ?_
  walk_at "~for rng cons c nil"
  refine c_rngK rfl fun l14 => ?_
  refine c_loop (E := fun sE : ((List Str) × (List Int)) => [o0, .own (.lst (sE.1.map eS)), .val ((eL eI) cells), .val (eI xx), .val (eS z12.1), .own (.lst (sE.2.map eI)), .no, .no, .no]) (forL_P (E := fun sE : ((List Str) × (List Int)) => [o0, .own (.lst (sE.1.map eS)), .val ((eL eI) cells), .val (eI xx), .val (eS z12.1), .own (.lst (sE.2.map eI)), .no, .no, .no]) (ec := eI) (s_law_b2 (o0) (.val ((eL eI) cells)) (.val (eI xx)) z12.1) _ (some_13, z12.2)) fun s21 => ?_
  refine c_aftN (e2 := [o0, .own (.lst (s21.1.map eS)), .val ((eL eI) cells), .no, .no, .no, .no, .no, .no]) rfl ?_
  exact rfl)
def m_law_b5 : MS := (mAft [4, 7] (mSeq (mSet 7 (mFrz (mLst (mCons (mFrz (mCallF fm_w_read none (mCons (mName 4) (mCons (mTup (mCons (mFrz (mC (.int 112))) (mCons (mFrz (mC (.int 14))) mNil))) (mCons (mC (.str "csp")) mNil))))) (mCons (mFrz (mCallF fm_w_read none (mCons (mName 4) (mCons (mTup (mCons (mFrz (mC (.int 320))) (mCons (mFrz (mC (.int 40))) mNil))) (mCons (mC (.str "mfr")) mNil))))) mNil)))))
    (mIfS (mNot (mTest (mCallF (fm_w_same 9) none (mCons (mLst (mCons (mFrz (mCallF fm_weight_in none (mCons (mName 4) mNil))) (mCons (mFrz (mCallF fm_length_in none (mCons (mName 4) mNil))) mNil))) (mCons (mName 7) mNil))))) (mRetW [0, 1, 2, 3, 4, 5, 6, 7, 8] (mC (.bool false))) mSkip)))
def P_law_b6  (xx : Str) (ss : Unit) : Option (Fw Bool Unit) :=
  (P_w_read xx (112, 14) ("csp" : Str)).bind fun r24 =>
  (P_w_read xx (320, 40) ("mfr" : Str)).bind fun r25 =>
  (some [r24, r25]).bind fun due26 =>
  (P_weight_in xx).bind fun r27 =>
  (P_length_in xx).bind fun r28 =>
  (P_w_same 9 ((eL (eO eI)) [r27, r28]) ((eL (eO eI)) due26)).bind fun r29 =>
  if (!r29) = true then
    some (.rt false)
  else
    some (.nx ())
theorem s_law_b6 (o0 : Slot) (o1 : Slot) (o2 : Slot) (xx : Str) (ss : Unit) : ((mgName 4) (eS xx) [o0, o1, o2, .no, .no, .no, .no, .no, .no]).bind m_law_b5 = (P_law_b6  xx ss).map (outB (fun z : Bool => .dat (eB z)) (fun z => [.no, .no, .no, .no, .no, .no, .no, .no, .no]) (fun ss : Unit => [o0, o1, o2, .no, .no, .no, .no, .no, .no])) := c_body (by
  unfold P_law_b6 m_law_b5
  refine c_gname (e2 := [o0, o1, o2, .no, .val (eS xx), .no, .no, .no, .no]) rfl ?_
  walk_at "~aft seq set frz lst cons frz callF cons nameV:1 cons tup cons frz c frzD cons frz c frzD nil"
  refine c_tupK _ rfl (Nat.le_of_ble_eq_true rfl) ?_
  walk_at "~cons c nil"
  refine c_callK (bk := fun r24 => [o0, o1, o2, .no, .val (eS xx), .no, .no, .no, .no]) rfl rfl (q_w_read xx (112, 14) ("csp" : Str)) (fun _ => by walk_at "fl") (fun _ => rfl) fun r24 => ?_
  walk_at "~frzD cons frz callF cons nameV:1 cons tup cons frz c frzD cons frz c frzD nil"
  refine c_tupK _ rfl (Nat.le_of_ble_eq_true rfl) ?_
  walk_at "~cons c nil"
  refine c_callK (bk := fun r25 => [o0, o1, o2, .no, .val (eS xx), .no, .no, .no, .no]) rfl rfl (q_w_read xx (320, 40) ("mfr" : Str)) (fun _ => by walk_at "fl") (fun _ => rfl) fun r25 => ?_
  walk_at "~frzD nil"
  refine c_lstK ([r24, r25].map (eO eI)) rfl (Nat.le_of_ble_eq_true rfl) ?_
  walk_at "~frzN"
  refine c_setDL (τ := (List (Option Int))) (eL (eO eI)) [r24, r25] (fun due26 => [o0, o1, o2, .no, .val (eS xx), .no, .no, .val ((eL (eO eI)) due26), .no]) (fun _ => rfl) fun due26 => ?_
  walk_at "~seqN ifS notB test callF cons lst cons frz callF cons nameV:1 nil"
  refine c_callK (bk := fun r27 => [o0, o1, o2, .no, .val (eS xx), .no, .no, .val ((eL (eO eI)) due26), .no]) rfl rfl (q_weight_in xx) (fun _ => by walk_at "fl") (fun _ => rfl) fun r27 => ?_
  walk_at "~frzD cons frz callF cons nameV:1 nil"
  refine c_callK (bk := fun r28 => [o0, o1, o2, .no, .val (eS xx), .no, .no, .val ((eL (eO eI)) due26), .no]) rfl rfl (q_length_in xx) (fun _ => by walk_at "fl") (fun _ => rfl) fun r28 => ?_
  walk_at "~frzD nil"
  refine c_lstK ([r27, r28].map (eO eI)) rfl (Nat.le_of_ble_eq_true rfl) ?_
  walk_at "~cons nameV:1 nil"
  refine c_callK (bk := fun r29 => [o0, o1, o2, .no, .val (eS xx), .no, .no, .val ((eL (eO eI)) due26), .no]) rfl rfl (q_w_same 9 ((eL (eO eI)) [r27, r28]) ((eL (eO eI)) due26)) (fun _ => by walk_at "fl") (fun _ => rfl) fun r29 => ?_
  walk_at "~testK"
  refine c_ite ?_ ?_
  · refine c_ret ?_
    walk_at "~c"
    refine c_retK (.dat (eB false)) rfl (e2 := [.no, .no, .no, .no, .no, .no, .no, .no, .no]) rfl ?_
    walk_at "~aftR"
    exact rfl
  · refine c_skip ?_
    refine c_aftN (e2 := [o0, o1, o2, .no, .no, .no, .no, .no, .no]) rfl ?_
    exact rfl)
def m_law : MS := (mSeq (mSet 1 (mLst (mCons (mFrz (mC (.str ""))) (mCons (mFrz (mC (.str "0"))) (mCons (mFrz (mC (.str "0p"))) (mCons (mFrz (mC (.str "0r"))) (mCons (mFrz (mC (.str "0c"))) (mCons (mFrz (mC (.str "0s"))) (mCons (mFrz (mC (.str "0m"))) (mCons (mFrz (mC (.str "0f"))) (mCons (mFrz (mC (.str "1"))) (mCons (mFrz (mC (.str "c"))) (mCons (mFrz (mC (.str "p"))) (mCons (mFrz (mC (.str "1c0s"))) (mCons (mFrz (mC (.str "0c1p"))) (mCons (mFrz (mC (.str "8s"))) (mCons (mFrz (mC (.str "14p"))) (mCons (mFrz (mC (.str "7s13p"))) (mCons (mFrz (mC (.str "8f"))) mNil)))))))))))))))))))
    (mSeq (mSet 1 (mOp gAdd (mName 1) (mLst (mCons (mFrz (mC (.str "40r"))) (mCons (mFrz (mC (.str "7f39r"))) (mCons (mFrz (mC (.str "1c1c"))) (mCons (mFrz (mC (.str "1p1s"))) (mCons (mFrz (mC (.str "1C"))) (mCons (mFrz (mC (.str "1c 1s"))) (mCons (mFrz (mC (.str " 1c"))) (mCons (mFrz (mC (.str "1c "))) (mCons (mFrz (mC (.str "-1c"))) (mCons (mFrz (mC (.str "+1p"))) (mCons (mFrz (mC (.str "01p"))) (mCons (mFrz (mC (.str "1.p"))) mNil)))))))))))))))
    (mSeq (mDrop (mMut 1 fApp (mCons (mFrz (mC (.str "999999999c7s13p"))) mNil)))
    (mSeq (mSet 1 (mOp gAdd (mName 1) (mLst (mCons (mFrz (mC (.str "1000000000c"))) (mCons (mFrz (mC (.str "999999999m7f39r"))) (mCons (mFrz (mC (.str "1000000000m"))) (mCons (mFrz (mC (.str "1c1f"))) (mCons (mFrz (mC (.str "1m1s"))) (mCons (mFrz (mC (.str "1cs"))) (mCons (mFrz (mC (.str "12"))) (mCons (mFrz (mC (.str "1_0p"))) (mCons (mFrz (mOp gMulS (mC (.str "9")) (mC (.int 60)))) mNil))))))))))))
    (mSeq (mSet 2 (mFrz (mCallF fm_w_folded none (mCons (mName 0) (mCons (mC (.int 6)) mNil)))))
    (mSeq (mBef [3, 4, 5, 6, 8] (mFor (mRange1 (mCons (mCB (gInt2 fun i j => if j > i then j else i) (mCons (mC (.int 1)) (mCons (mCB gLen (mCons (mName 2) mNil)) mNil))) mNil)) (mgName 3) m_law_b3))
    (mSeq (mBef [4, 7] (mFor (mItL (mOp gAdd (mName 1) (mSl gSlL (mName 1) mNoPart (mPart (mC (.int 60)))))) (mgName 4) m_law_b5))
    (mRetW [0, 1, 2, 3, 4, 5, 6, 7, 8] (mC (.bool true))))))))))
def fm_law : FM := fmOf 1 9 m_law
theorem ok_law (T : Tx w K mg fd) : FnOk P w K mg base CX0 11 (He.ga K "law") (fd 14) ["_law_script"] (spF K fm_law) :=
  fn_ok T.F_law sc_law fun cdv A outer s H E hr => (show VSs _ _ m_law from (vs_cons (vs_set (i := 1) sc_law.nd (ve_lst (va_cons (ve_frz ve_str) (va_cons (ve_frz ve_str) (va_cons (ve_frz ve_str) (va_cons (ve_frz ve_str) (va_cons (ve_frz ve_str) (va_cons (ve_frz ve_str) (va_cons (ve_frz ve_str) (va_cons (ve_frz ve_str) (va_cons (ve_frz ve_str) (va_cons (ve_frz ve_str) (va_cons (ve_frz ve_str) (va_cons (ve_frz ve_str) (va_cons (ve_frz ve_str) (va_cons (ve_frz ve_str) (va_cons (ve_frz ve_str) (va_cons (ve_frz ve_str) (va_cons (ve_frz ve_str) va_nil)))))))))))))))))))
      (vs_cons (vs_set (i := 1) sc_law.nd (ve_op or_add od_add (ve_name 1) (ve_lst (va_cons (ve_frz ve_str) (va_cons (ve_frz ve_str) (va_cons (ve_frz ve_str) (va_cons (ve_frz ve_str) (va_cons (ve_frz ve_str) (va_cons (ve_frz ve_str) (va_cons (ve_frz ve_str) (va_cons (ve_frz ve_str) (va_cons (ve_frz ve_str) (va_cons (ve_frz ve_str) (va_cons (ve_frz ve_str) (va_cons (ve_frz ve_str) va_nil)))))))))))))))
      (vs_cons (vs_expr (ve_mut (i := 1) PySem.F.slot_list_append PySem.F.type_list_append mt_append md_append (va_cons (ve_frz ve_str) va_nil)))
      (vs_cons (vs_set (i := 1) sc_law.nd (ve_op or_add od_add (ve_name 1) (ve_lst (va_cons (ve_frz ve_str) (va_cons (ve_frz ve_str) (va_cons (ve_frz ve_str) (va_cons (ve_frz ve_str) (va_cons (ve_frz ve_str) (va_cons (ve_frz ve_str) (va_cons (ve_frz ve_str) (va_cons (ve_frz ve_str) (va_cons (ve_frz (ve_op op_mulS od_mulS ve_str ve_int)) va_nil))))))))))))
      (vs_cons (vs_set (i := 2) sc_law.nd (ve_frz (ve_callF none (FnOk.mono (ok_w_folded T) (by decide)) hr T.g_w_folded T.F_w_folded.kp (bi_w_folded T) (va_cons (ve_name 0) (va_cons ve_int va_nil)))))
      (vs_cons (vs_bef (ws := [3, 4, 5, 6, 8]) (vs_for PassesOwn.never (vi_range1 T.b_range (va_cons (ve_callB (call_max2 rfl) (cd_int2 (f := fun i j => if j > i then j else i)) (by rfl) T.b_max (by decide +kernel) (va_cons ve_int (va_cons (ve_callB call_len cd_len (by rfl) T.b_len PySem.boot_len (va_cons (ve_name 2) va_nil)) va_nil))) va_nil)) (vg_name (j := 3) sc_law.nd) (vs_aft (ws := [3, 4, 5, 6, 8]) (vs_cons (vs_set (i := 5) sc_law.nd (ve_callF none (FnOk.mono (ok_w_box T) (by decide)) hr T.g_w_box T.F_w_box.kp (bi_w_box T) (va_cons (ve_name 2) (va_cons (ve_name 3) va_nil))))
      (vs_cons (vs_set (i := 4) sc_law.nd (ve_frz (ve_if (vt_cmp (or_eq hr.units) od_eq (ve_callF (some 0) (FnOk.mono (ok_w_take T) (by decide)) hr T.g_w_take T.F_w_take.kp (bi_w_take T) (va_cons (ve_name 5) (va_cons ve_int va_nil))) ve_int (nomark _)) (ve_callF (some 0) (FnOk.mono (ok_w_word T) (by decide)) hr T.g_w_word T.F_w_word.kp (bi_w_word T) (va_cons (ve_name 5) (va_cons (ve_tup (va_cons (ve_frz ve_int) (va_cons (ve_frz ve_int) va_nil))) (va_cons ve_str va_nil)))) (ve_callF (some 0) (FnOk.mono (ok_w_word T) (by decide)) hr T.g_w_word T.F_w_word.kp (bi_w_word T) (va_cons (ve_name 5) (va_cons (ve_tup (va_cons (ve_frz ve_int) (va_cons (ve_frz ve_int) va_nil))) (va_cons ve_str va_nil)))))))
      (vs_cons (vs_expr (ve_mut (i := 1) PySem.F.slot_list_append PySem.F.type_list_append mt_append md_append (va_cons (ve_frz (ve_name 4)) va_nil)))
      (vs_one (vs_bef (ws := [6, 8]) (vs_for PassesOwn.never (vi_range1 T.b_range (va_cons ve_int va_nil)) (vg_name (j := 6) sc_law.nd) (vs_aft (ws := [6, 8]) (vs_cons (vs_set (i := 8) sc_law.nd (ve_frz (ve_callF (some 0) (FnOk.mono (ok_w_spoilt T) (by decide)) hr T.g_w_spoilt T.F_w_spoilt.kp (bi_w_spoilt T) (va_cons (ve_name 5) (va_cons (ve_name 4) va_nil)))))
      (vs_one (vs_expr (ve_mut (i := 1) PySem.F.slot_list_append PySem.F.type_list_append mt_append md_append (va_cons (ve_frz (ve_slice sl_str sd_str (ve_if (vt_cmp op_gt (od_cmp (p := fun i j => decide (j < i))) (ve_callF (some 0) (FnOk.mono (ok_w_take T) (by decide)) hr T.g_w_take T.F_w_take.kp (bi_w_take T) (va_cons (ve_name 5) (va_cons ve_int va_nil))) ve_int (nomark _)) (ve_name 8) (ve_callF (some 0) (FnOk.mono (ok_w_spoilt T) (by decide)) hr T.g_w_spoilt T.F_w_spoilt.kp (bi_w_spoilt T) (va_cons (ve_name 5) (va_cons (ve_name 8) va_nil)))) vo_none (vo_some ve_int))) va_nil)))))))))))))))
      (vs_cons (vs_bef (ws := [4, 7]) (vs_for PassesOwn.never (vi_list (ve_op or_add od_add (ve_name 1) (ve_slice sl_list sd_list (ve_name 1) vo_none (vo_some ve_int)))) (vg_name (j := 4) sc_law.nd) (vs_aft (ws := [4, 7]) (vs_cons (vs_set (i := 7) sc_law.nd (ve_frz (ve_lst (va_cons (ve_frz (ve_callF none (FnOk.mono (ok_w_read T) (by decide)) hr T.g_w_read T.F_w_read.kp (bi_w_read T) (va_cons (ve_name 4) (va_cons (ve_tup (va_cons (ve_frz ve_int) (va_cons (ve_frz ve_int) va_nil))) (va_cons ve_str va_nil))))) (va_cons (ve_frz (ve_callF none (FnOk.mono (ok_w_read T) (by decide)) hr T.g_w_read T.F_w_read.kp (bi_w_read T) (va_cons (ve_name 4) (va_cons (ve_tup (va_cons (ve_frz ve_int) (va_cons (ve_frz ve_int) va_nil))) (va_cons ve_str va_nil))))) va_nil)))))
      (vs_one (vs_if (vt_not (vt_val (ve_callF none (FnOk.mono (ok_w_same T 9) (by decide)) hr T.g_w_same T.F_w_same.kp (bi_w_same T) (va_cons (ve_lst (va_cons (ve_frz (ve_callF none (FnOk.mono (ok_weight_in T) (by decide)) hr T.g_weight_in T.F_weight_in.kp (bi_weight_in T) (va_cons (ve_name 4) va_nil))) (va_cons (ve_frz (ve_callF none (FnOk.mono (ok_length_in T) (by decide)) hr T.g_length_in T.F_length_in.kp (bi_length_in T) (va_cons (ve_name 4) va_nil))) va_nil))) (va_cons (ve_name 7) va_nil))))) (vs_one (vs_retW ve_bl)) vs_nil))))))
      (vs_one (vs_retW ve_bl))))))))))
def P_law (script : List Int) : Option Bool :=
  (some [("" : Str), ("0" : Str), ("0p" : Str), ("0r" : Str), ("0c" : Str), ("0s" : Str), ("0m" : Str), ("0f" : Str), ("1" : Str), ("c" : Str), ("p" : Str), ("1c0s" : Str), ("0c1p" : Str), ("8s" : Str), ("14p" : Str), ("7s13p" : Str), ("8f" : Str)]).bind fun some_1 =>
  (pCat some_1 [("40r" : Str), ("7f39r" : Str), ("1c1c" : Str), ("1p1s" : Str), ("1C" : Str), ("1c 1s" : Str), (" 1c" : Str), ("1c " : Str), ("-1c" : Str), ("+1p" : Str), ("01p" : Str), ("1.p" : Str)]).bind fun t2 =>
  (pApp t2 ("999999999c7s13p" : Str)).bind fun some_3 =>
  (pMulS ("9" : Str) 60).bind fun t4 =>
  (pCat some_3 [("1000000000c" : Str), ("999999999m7f39r" : Str), ("1000000000m" : Str), ("1c1f" : Str), ("1m1s" : Str), ("1cs" : Str), ("12" : Str), ("1_0p" : Str), t4]).bind fun t5 =>
  (P_w_folded script 6).bind fun r6 =>
  (pRng (maxI 1 (r6.length : Int))).bind fun l7 =>
  (forP (P_law_b4 r6) l7 t5).bind fun s22 =>
  (pCat s22 (cutL s22 none (some 60))).bind fun t23 =>
  (forR (P_law_b6 ) t23 ()).bind fun w31 => w31.on (fun z => some z) fun s30 =>
    some true
theorem q_law (script : List Int) : fm_law [.scr script] = (P_law script).map fun z => (.dat (eB z), [.no]) := by
  unfold fm_law m_law P_law
  refine c_fm (oR := fun z : Bool => .dat (eB z)) (eR := fun z => [.no, .no, .no, .no, .no, .no, .no, .no, .no]) [.scr script, .no, .no, .no, .no, .no, .no, .no, .no] rfl rfl ?_ (fun _ => rfl) (fun _ => by walk_at "ik") (fun _ => rfl)
  walk_at "~seq set lst cons frz c frzD cons frz c frzD cons frz c frzD cons frz c frzD cons frz c frzD cons frz c frzD cons frz c frzD cons frz c frzD cons frz c frzD cons frz c frzD cons frz c frzD cons frz c frzD cons frz c frzD cons frz c frzD cons"
  walk_at "~frz c frzD cons frz c frzD cons frz c frzD nil"
  refine c_lstK ([("" : Str), ("0" : Str), ("0p" : Str), ("0r" : Str), ("0c" : Str), ("0s" : Str), ("0m" : Str), ("0f" : Str), ("1" : Str), ("c" : Str), ("p" : Str), ("1c0s" : Str), ("0c1p" : Str), ("8s" : Str), ("14p" : Str), ("7s13p" : Str), ("8f" : Str)].map eS) rfl (Nat.le_of_ble_eq_true rfl) ?_
  refine c_setNL (τ := Str) eS [("" : Str), ("0" : Str), ("0p" : Str), ("0r" : Str), ("0c" : Str), ("0s" : Str), ("0m" : Str), ("0f" : Str), ("1" : Str), ("c" : Str), ("p" : Str), ("1c0s" : Str), ("0c1p" : Str), ("8s" : Str), ("14p" : Str), ("7s13p" : Str), ("8f" : Str)] (fun some_1 => [.scr script, .own (.lst (some_1.map eS)), .no, .no, .no, .no, .no, .no, .no]) (fun _ => rfl) fun some_1 => ?_
  walk_at "~seqN seq set op nameO:1 lst cons frz c frzD cons frz c frzD cons frz c frzD cons frz c frzD cons frz c frzD cons frz c frzD cons frz c frzD cons frz c frzD cons frz c frzD cons frz c frzD cons frz c frzD cons frz c frzD nil"
  refine c_lstK ([("40r" : Str), ("7f39r" : Str), ("1c1c" : Str), ("1p1s" : Str), ("1C" : Str), ("1c 1s" : Str), (" 1c" : Str), ("1c " : Str), ("-1c" : Str), ("+1p" : Str), ("01p" : Str), ("1.p" : Str)].map eS) rfl (Nat.le_of_ble_eq_true rfl) ?_
  walk_at "~opK:2"
  refine c_cal (x_cat (e := eS)) fun t2 => ?_
  refine c_setN (e2 := [.scr script, .own (.lst (t2.map eS)), .no, .no, .no, .no, .no, .no, .no]) rfl ?_
  walk_at "~seqN seq drop mut:1 cons frz c frzD nil"
  refine c_mutP [eS ("999999999c7s13p" : Str)] (t2.map eS) (fun some_3 => [.scr script, .own (.lst (some_3.map eS)), .no, .no, .no, .no, .no, .no, .no]) rfl rfl (x_app (e := eS) (l := t2) (x := ("999999999c7s13p" : Str))) (fun _ => rfl) fun some_3 => ?_
  walk_at "~seqN seq set op nameO:1 lst cons frz c frzD cons frz c frzD cons frz c frzD cons frz c frzD cons frz c frzD cons frz c frzD cons frz c frzD cons frz c frzD cons frz op c c opK:2"
  refine c_cal x_mulS fun t4 => ?_
  walk_at "~frzD nil"
  refine c_lstK ([("1000000000c" : Str), ("999999999m7f39r" : Str), ("1000000000m" : Str), ("1c1f" : Str), ("1m1s" : Str), ("1cs" : Str), ("12" : Str), ("1_0p" : Str), t4].map eS) rfl (Nat.le_of_ble_eq_true rfl) ?_
  walk_at "~opK:2"
  refine c_cal (x_cat (e := eS)) fun t5 => ?_
  refine c_setN (e2 := [.scr script, .own (.lst (t5.map eS)), .no, .no, .no, .no, .no, .no, .no]) rfl ?_
  walk_at "~seqN seq set frz callF cons nameS:1 cons c nil"
  refine c_callK (bk := fun r6 => [.scr script, .own (.lst (t5.map eS)), .no, .no, .no, .no, .no, .no, .no]) rfl rfl (q_w_folded script 6) (fun _ => by walk_at "fl") (fun _ => rfl) fun r6 => ?_
  walk_at "~frzN"
  refine c_setD (e2 := [.scr script, .own (.lst (t5.map eS)), .val ((eL eI) r6), .no, .no, .no, .no, .no, .no]) rfl ?_
  walk_at "~seqN seq"
  refine c_bef (e2 := [.scr script, .own (.lst (t5.map eS)), .val ((eL eI) r6), .no, .no, .no, .no, .no, .no]) rfl ?_
  walk_at "~for rng cons cb cons c cons cb cons nameV:1 nil"
  refine c_cbK _ rfl ?_
  refine c_pur (x_lenL (e := eI) (l := r6)) ?_
  walk_at "~nil"
  refine c_cbK _ rfl ?_
  refine c_pur x_int2 ?_
  walk_at "~nil"
  refine c_rngK rfl fun l7 => ?_
  refine c_loop (E := fun sE : (List Str) => [.scr script, .own (.lst (sE.map eS)), .val ((eL eI) r6), .no, .no, .no, .no, .no, .no]) (forL_P (E := fun sE : (List Str) => [.scr script, .own (.lst (sE.map eS)), .val ((eL eI) r6), .no, .no, .no, .no, .no, .no]) (ec := eI) (s_law_b4 (.scr script) r6) _ t5) fun s22 => ?_
  walk_at "~seqN seq"
  refine c_bef (e2 := [.scr script, .own (.lst (s22.map eS)), .val ((eL eI) r6), .no, .no, .no, .no, .no, .no]) rfl ?_
  walk_at "~for itL op nameO:1 sl nameO:1 noPart part c partK"
  refine c_slK _ rfl ?_
  refine c_pur x_cut ?_
  walk_at "~opK:2"
  refine c_cal (x_cat (e := eS)) fun t23 => ?_
  walk_at "~frzN itLK"
  refine c_loopR (E := fun sE : Unit => [.scr script, .own (.lst (s22.map eS)), .val ((eL eI) r6), .no, .no, .no, .no, .no, .no]) (oR := fun z : Bool => .dat (eB z)) (eR := fun z => [.no, .no, .no, .no, .no, .no, .no, .no, .no]) (forL_R (E := fun sE : Unit => [.scr script, .own (.lst (s22.map eS)), .val ((eL eI) r6), .no, .no, .no, .no, .no, .no]) (oR := fun z : Bool => .dat (eB z)) (eR := fun z => [.no, .no, .no, .no, .no, .no, .no, .no, .no]) (ec := eS) (s_law_b6 (.scr script) (.own (.lst (s22.map eS))) (.val ((eL eI) r6))) _ ()) (fun z => ?_) (fun s30 => ?_)
  · refine c_seqR ?_
    exact rfl
  · refine c_seqN ?_
    walk_at "~ret c"
    refine c_retK (.dat (eB true)) rfl (e2 := [.no, .no, .no, .no, .no, .no, .no, .no, .no]) rfl ?_
    exact rfl
end
end Lw
namespace Lw
open PySem L2 Cm
theorem sq_le {c : Int} (h0 : 0 ≤ c) (h1 : c ≤ 2147483648) : 0 ≤ c * c ∧ c * c ≤ 2147483648 * 2147483648 := ⟨Int.mul_nonneg h0 h0, Int.mul_le_mul h1 h1 h0 (by omega)⟩
theorem take_wp {b : List Int} {n m : Int} (h : Bok b n) (hn : n < 2147483648) (hm : 0 < m ∧ m < 1073741824) : Wp (P_w_take b m) fun r => (0 ≤ r.1 ∧ r.1 < m) ∧ Bok r.2 (n + 1) := by
  obtain ⟨a, v, c, rfl, h1, h2, h3⟩ := h
  unfold P_w_take
  refine wp_be (ix_eq (z := a) (by omega) rfl) ?_
  refine wp_ifd (fun ha => ?_) (fun ha => ?_)
  · refine wp_be (ix_eq (z := a) (by omega) rfl) ?_
    refine wp_be (mod_eq hm.1) ?_
    refine wp_be (ix_eq (z := a) (by omega) rfl) ?_
    refine wp_be (div_eq hm) ?_
    refine wp_be (set_eq (by omega) (by simp)) ?_
    exact wp_some ⟨⟨Int.emod_nonneg _ (by omega), Int.emod_lt_of_pos _ hm.1⟩, a / m, v, c, rfl, Int.ediv_nonneg h1 (by omega), h2, by omega⟩
  · have hs := sq_le (c := c + 1) (by omega) (by omega)
    refine wp_be (ix_eq (z := c) (by omega) rfl) ?_
    refine wp_be (set_eq (by omega) (by simp)) ?_
    refine wp_be (ix_eq (z := c + 1) (by omega) rfl) ?_
    refine wp_be (ix_eq (z := c + 1) (by omega) rfl) ?_
    refine wp_be (mul_eq (by omega)) ?_
    refine wp_let ?_
    refine wp_be (ix_eq (z := v) (by omega) rfl) ?_
    refine wp_be (ix_eq (z := c + 1) (by omega) rfl) ?_
    generalize (c + 1) * (c + 1) = q at hs ⊢
    refine wp_be (mul_eq (.inr (by omega))) ?_
    refine wp_let ?_
    refine wp_be (mul_eq (.inr (by omega))) ?_
    refine wp_be (ix_eq (z := c + 1) (by omega) rfl) ?_
    refine wp_let ?_
    refine wp_be (mul_eq (.inr (by omega))) ?_
    refine wp_be (mod_eq hm.1) ?_
    exact wp_some ⟨⟨Int.emod_nonneg _ (by omega), Int.emod_lt_of_pos _ hm.1⟩, a, v, c + 1, rfl, h1, by omega, by omega⟩
theorem box_wp (l : List Int) (k : Int) (hk : 0 ≤ k) : Wp (P_w_box l k) fun b => Bok b 0 := by
  unfold P_w_box
  refine wp_bind (R := fun _ => True) ?_ fun z _ => ?_
  · refine wp_ifd (fun h => ?_) (fun h => ?_)
    · exact wp_bind (ix_wp hk h) fun z _ => wp_some trivial
    · exact wp_some trivial
  · have ha := absI_nn z
    refine wp_be (mul_eq (.inr (by split <;> omega))) ?_
    refine wp_some ⟨_, _, _, rfl, ?_, by omega, by omega⟩
    split
    · omega
    · simp
theorem folded_wp (ns : List Int) (h63 : ns.length ≤ 63) (k : Nat) (hk : 0 < k ∧ k < 1000) : Wp (P_w_folded ns (k : Int)) fun cs => cs.length ≤ k := by
  unfold P_w_folded
  refine wp_let ?_
  rw [cutL_to]
  refine wp_bind (wp_loop (I := fun _ s => s.length = (ns.take k).length) rfl ?_) fun s hs => wp_some ?_
  · intro j x s hx hs
    obtain ⟨h1, h2⟩ := enumI_get hx
    rw [Nat.zero_add] at h1
    have hj := (List.getElem?_eq_some_iff.mp h2).1
    have hl : (cutL ns (some (k : Int)) (some 63)).length ≤ ns.length := cutL_len _ _ _
    -- the list behind is empty where there are fewer than k
    have hfull : (ns.take k).length = k := by
      rw [List.length_take]
      by_cases hc : k ≤ ns.length
      · omega
      · exfalso
        have : cutL ns (some (k : Int)) (some 63) = [] := by
          unfold cutL
          rw [HT.sIx_nat, Nat.min_eq_right (by omega), List.drop_of_length_le (Nat.le_refl _), List.take_nil]
        rw [this] at hj
        simp at hj
    unfold P_w_folded_b2
    have m1 := Int.emod_nonneg x.1 (b := (k : Int)) (by omega)
    have m2 := Int.emod_lt_of_pos x.1 (b := (k : Int)) (by omega)
    refine wp_be (mod_eq (by omega)) ?_
    refine wp_bind (ix_wp m1 (by omega)) fun t3 _ => ?_
    refine wp_be (mul_eq (.inr (by omega))) ?_
    refine wp_be (mod_eq (by omega)) ?_
    refine wp_be (set_eq m1 (by omega)) ?_
    exact wp_some (by rw [List.length_set]; exact hs)
  · rw [hs, List.length_take]; omega
theorem app_len (a b : Str) : (a ++ b).length = a.length + b.length := by
  show (a.cps ++ b.cps).size = a.cps.size + b.cps.size
  simp
theorem emp_len : ("" : Str).length = 0 := by decide +kernel
theorem emp_cps : ("" : Str) = ⟨#[]⟩ := by decide +kernel
theorem emp_app (x : Str) : ("" : Str) ++ x = x := by
  rw [emp_cps]
  show (⟨#[] ++ x.cps⟩ : Str) = x
  simp
theorem app_emp (x : Str) : x ++ ("" : Str) = x := by
  rw [emp_cps]
  show (⟨x.cps ++ #[]⟩ : Str) = x
  simp
theorem len_emp {x : Str} (h : 1 ≤ x.length) : ¬ x = "" := fun e => by
  rw [e, emp_len] at h
  omega
theorem catS_eq {a b : Str} (h : a.length + b.length ≤ 100000) : pCatS a b = some (a ++ b) := if_pos h
structure Lay (d : PyData) (k : Nat) : Prop where
  can : PyData.canLay0 d = true
  dep : PyData.depth d ≤ k
theorem Lay.mono {d : PyData} {k l : Nat} (h : Lay d k) (e : k ≤ l) : Lay d l := ⟨h.can, Nat.le_trans h.dep e⟩
theorem layS {x : Str} (h : PyData.strOk x = true) : Lay (.str x) 0 := ⟨by simpa [PyData.canLay0] using h, by simp [PyData.depth]⟩
theorem layAll {ds : List PyData} {k : Nat} (h : ∀ d ∈ ds, Lay d k) : PyData.canLayAll0 ds = true ∧ PyData.depthAll ds ≤ k := by
  induction ds with
  | nil => exact ⟨by simp [PyData.canLayAll0], by simp [PyData.depthAll]⟩
  | cons d ds ih =>
    obtain ⟨h1, h2⟩ := ih fun x hx => h x (List.mem_cons_of_mem _ hx)
    obtain ⟨h3, h4⟩ := h d List.mem_cons_self
    refine ⟨by simp [PyData.canLayAll0, h1, h3], ?_⟩
    simp only [PyData.depthAll]
    omega
theorem layL {ds : List PyData} {k : Nat} (h : ∀ d ∈ ds, Lay d k) : Lay (.list ds) (k + 1) := by
  obtain ⟨h1, h2⟩ := layAll h
  refine ⟨by simpa [PyData.canLay0] using h1, ?_⟩
  simp only [PyData.depth]
  omega
theorem layT {ds : List PyData} {k : Nat} (h : ∀ d ∈ ds, Lay d k) : Lay (.tuple ds) (k + 1) := by
  obtain ⟨h1, h2⟩ := layAll h
  refine ⟨by simpa [PyData.canLay0] using h1, ?_⟩
  simp only [PyData.depth]
  omega
theorem Lay.shaped {d : PyData} {k : Nat} (h : Lay d k) (hk : k ≤ 64) : SeqAt.shaped d = true := by
  obtain ⟨h1, h2⟩ := h
  simp only [SeqAt.shaped, h1, Bool.true_and, decide_eq_true_eq]
  omega
theorem eq_eq {α : Type} [DecidableEq α] {e : α → PyData} {neg : Bool} {x y : α} {k l : Nat} (h1 : Lay (e x) k) (h2 : Lay (e y) l) (hk : k ≤ 64) (hl : l ≤ 64) : pEq e neg x y = some (neg ^^ decide (x = y)) := by
  unfold pEq
  rw [h1.shaped hk, h2.shaped hl]
  rfl
theorem isi_LL {l : List PyData} : pIsi "list" (.list l) = some true := kit_list_list
theorem isi_TL {l : List PyData} : pIsi "tuple" (.list l) = some false := kit_list_tuple
theorem isi_LT {l : List PyData} : pIsi "list" (.tuple l) = some false := kit_tuple_list
theorem isi_TT {l : List PyData} : pIsi "tuple" (.tuple l) = some true := kit_tuple_tuple
theorem isi2_L {l : List PyData} : pIsi2 "list" "tuple" (.list l) = some true := by
  unfold pIsi2
  show (kitB "list" "list").bind _ = _
  rw [kit_list_list, Option.bind_some]
  show (kitB "list" "tuple").map _ = _
  rw [kit_list_tuple]
  rfl
theorem isi2_T {l : List PyData} : pIsi2 "list" "tuple" (.tuple l) = some true := by
  unfold pIsi2
  show (kitB "tuple" "list").bind _ = _
  rw [kit_tuple_list, Option.bind_some]
  show (kitB "tuple" "tuple").map _ = _
  rw [kit_tuple_tuple]
  rfl
theorem isi2_I {i : Int} : pIsi2 "list" "tuple" (.int i) = some false := by
  unfold pIsi2
  show (kitB "int" "list").bind _ = _
  rw [kit_int_list, Option.bind_some]
  show (kitB "int" "tuple").map _ = _
  rw [kit_int_tuple]
  rfl
theorem isi2_S {i : Str} : pIsi2 "list" "tuple" (.str i) = some false := by
  unfold pIsi2
  show (kitB "str" "list").bind _ = _
  rw [kit_str_list, Option.bind_some]
  show (kitB "str" "tuple").map _ = _
  rw [kit_str_tuple]
  rfl
theorem isi2_B {i : Bool} : pIsi2 "list" "tuple" (.bool i) = some false := by
  unfold pIsi2
  show (kitB "bool" "list").bind _ = _
  rw [kit_bool_list, Option.bind_some]
  show (kitB "bool" "tuple").map _ = _
  rw [kit_bool_tuple]
  rfl
theorem isi2_N : pIsi2 "list" "tuple" .none = some false := by
  unfold pIsi2
  show (kitB "NoneType" "list").bind _ = _
  rw [kit_NoneType_list, Option.bind_some]
  show (kitB "NoneType" "tuple").map _ = _
  rw [kit_NoneType_tuple]
  rfl
theorem isi_BI {i : Int} : pIsi "bool" (.int i) = some false := kit_int_bool
theorem isi_SI {i : Int} : pIsi "str" (.int i) = some false := kit_int_str
theorem isi_II {i : Int} : pIsi "int" (.int i) = some true := kit_int_int
theorem isi_BS {i : Str} : pIsi "bool" (.str i) = some false := kit_str_bool
theorem isi_SS {i : Str} : pIsi "str" (.str i) = some true := kit_str_str
theorem isi_BB {i : Bool} : pIsi "bool" (.bool i) = some true := kit_bool_bool
inductive Sm : Nat → PyData → Prop
  | non : Sm 0 .none
  | int (i : Int) : Sm 0 (.int i)
  | str (x : Str) : Sm 0 (.str x)
  | bool (b : Bool) : Sm 0 (.bool b)
  | lst {k : Nat} {ds : List PyData} : ds.length ≤ 100000 → (∀ d ∈ ds, Sm k d) → Sm (k + 1) (.list ds)
  | tup {k : Nat} {ds : List PyData} : ds.length ≤ 100000 → (∀ d ∈ ds, Sm k d) → Sm (k + 1) (.tuple ds)
  | up {k : Nat} {d : PyData} : Sm k d → Sm (k + 1) d
theorem same_some {k : Nat} {d : PyData} (h : Sm k d) : ∀ n, k < n → P_w_same n d d = some true := by
  have hz : ∀ (n : Nat) (ds : List PyData), (∀ d ∈ ds, P_w_same n d d = some true) → ∀ (f : PyData × PyData → Option Bool), (∀ x, f x = (P_w_same n x.1 x.2).bind fun r => some r) → mapO f (ds.zip ds) = some ((ds.zip ds).map fun _ => true) := fun n ds hd f hf => by
    refine mapO_eq fun x hx => ?_
    have h1 : x.1 = x.2 ∧ x.1 ∈ ds := by
      obtain ⟨i, hi, rfl⟩ := List.getElem_of_mem hx
      rw [List.getElem_zip]
      exact ⟨rfl, List.getElem_mem _⟩
    rw [hf, ← h1.1, hd _ h1.2]
    rfl
  have hall : ∀ l : List (PyData × PyData), (l.map fun _ => true).all id = true := fun l => all_trues fun b hb => by
    obtain ⟨_, _, rfl⟩ := List.mem_map.mp hb
    rfl
  induction h with
  | non =>
    intro n hn
    obtain ⟨m, rfl⟩ : ∃ m, n = m + 1 := ⟨n - 1, by omega⟩
    show P_w_same_0 _ _ _ = _
    unfold P_w_same_0
    rw [isi2_N]
    rfl
  | int i =>
    intro n hn
    obtain ⟨m, rfl⟩ : ∃ m, n = m + 1 := ⟨n - 1, by omega⟩
    show P_w_same_0 _ _ _ = _
    unfold P_w_same_0
    have : pEqD false (.int i) (.int i) = some true := by simp [pEqD, scalD, PyData.eqv]
    simp [isi2_I, pIsN, isNoneD, isi_BI, isi_SI, isi_II, this]
  | str i =>
    intro n hn
    obtain ⟨m, rfl⟩ : ∃ m, n = m + 1 := ⟨n - 1, by omega⟩
    show P_w_same_0 _ _ _ = _
    unfold P_w_same_0
    have : pEqD false (.str i) (.str i) = some true := by simp [pEqD, scalD, PyData.eqv]
    simp [isi2_S, pIsN, isNoneD, isi_BS, isi_SS, this]
  | bool i =>
    intro n hn
    obtain ⟨m, rfl⟩ : ∃ m, n = m + 1 := ⟨n - 1, by omega⟩
    show P_w_same_0 _ _ _ = _
    unfold P_w_same_0
    have : pEqD false (.bool i) (.bool i) = some true := by simp [pEqD, scalD, PyData.eqv]
    simp [isi2_B, pIsN, isNoneD, isi_BB, this]
  | @lst k ds hl hd ih =>
    intro n hn
    obtain ⟨m, rfl⟩ : ∃ m, n = m + 1 := ⟨n - 1, by omega⟩
    have hm := hz m ds (fun d h => ih d h m (by omega)) (P_w_same_l2 (P_w_same m)) fun x => rfl
    show P_w_same_0 _ _ _ = _
    unfold P_w_same_0
    have hzl : (ds.zip ds).length ≤ 100000 := by rw [List.length_zip]; omega
    simp only [isi2_L, isi_LL, isi_TL, Option.bind_some, if_true, pLenD, pZipA, gd_eq hzl, hm, hall]
    simp
  | @tup k ds hl hd ih =>
    intro n hn
    obtain ⟨m, rfl⟩ : ∃ m, n = m + 1 := ⟨n - 1, by omega⟩
    have hm := hz m ds (fun d h => ih d h m (by omega)) (P_w_same_l2 (P_w_same m)) fun x => rfl
    show P_w_same_0 _ _ _ = _
    unfold P_w_same_0
    have hzl : (ds.zip ds).length ≤ 100000 := by rw [List.length_zip]; omega
    simp only [isi2_T, isi_LT, isi_TT, Option.bind_some, if_true, pLenD, pZipA, gd_eq hzl, hm, hall]
    simp
  | up _ ih => intro n hn; exact ih n (by omega)
open TL
abbrev U (s : Nat) : Str := ⟨#[s]⟩
def dg (q : Int) : Str := Str.ofString (toString q)
theorem dg_tl {q : Int} (h : 0 ≤ q) : tl (dg q) = numL q.toNat := by
  have : q = ((q.toNat : Nat) : Int) := by omega
  unfold dg
  rw [this]
  exact tl_num _
theorem dg_len {q : Int} (h0 : 0 ≤ q) (h1 : q < 10 ^ 18) : 1 ≤ (dg q).length ∧ (dg q).length ≤ 18 := by
  rw [len_tl, dg_tl h0]
  refine ⟨?_, numL_len (by decide) (by omega)⟩
  have := numL_ne q.toNat
  cases h : numL q.toNat with
  | nil => exact absurd h this
  | cons x l => simp
theorem log2_big {v : Int} (h0 : 0 ≤ v) (h1 : v < 10 ^ 18) : v.natAbs.log2 < 1920 := by
  by_cases hv : v.natAbs = 0
  · rw [hv]
    decide
  · rw [Nat.log2_lt hv]
    have : v.natAbs < 2 ^ 60 := by omega
    exact Nat.lt_of_lt_of_le this (Nat.pow_le_pow_right (by omega) (by omega))
theorem str_dg {v : Int} (h0 : 0 ≤ v) (h1 : v < 10 ^ 18) : pStr v = some (dg v) := if_pos (log2_big h0 h1)
theorem numL_long : ∀ (k n : Nat), 10 ^ k ≤ n → k < (numL n).length
  | 0, n, _ => by
    have := numL_ne n
    cases h : numL n with
    | nil => exact absurd h this
    | cons x l => simp
  | k + 1, n, h => by
    have h10 : 10 ≤ n := by
      have : 1 ≤ 10 ^ k := Nat.one_le_pow _ _ (by omega)
      rw [Nat.pow_succ] at h
      omega
    rw [numL_step h10, List.length_append]
    have := numL_long k (n / 10) (by rw [Nat.pow_succ] at h; omega)
    simp
    omega
theorem numL_head : ∀ (n : Nat), 1 ≤ n → ∃ c l, numL n = c :: l ∧ c ≠ 48 := by
  intro n
  induction n using Nat.strongRecOn with
  | _ n ih =>
    intro h
    by_cases h10 : n < 10
    · exact ⟨_, _, numL_lt h10, by omega⟩
    · obtain ⟨c, l, e, hc⟩ := ih (n / 10) (by omega) (by omega)
      rw [numL_step (by omega), e]
      exact ⟨c, l ++ [48 + n % 10], rfl, hc⟩
theorem figs : ("0123456789" : Str).cps.toList = [48, 49, 50, 51, 52, 53, 54, 55, 56, 57] := by decide +kernel
theorem plain_dg {q : Int} (h0 : 0 ≤ q) (h1 : q < 10 ^ 18) : P_plain_number (dg q) = some (if q < 10 ^ 9 then some q else none) := by
  have hl := dg_len h0 h1
  unfold P_plain_number
  have e1 : pLenS (dg q) = some ((dg q).length : Int) := if_pos (by omega)
  rw [e1, Option.bind_some]
  by_cases hq : q < 10 ^ 9
  · have hl9 : (dg q).length ≤ 9 := by
      rw [len_tl, dg_tl h0]
      exact numL_len (by decide) (by omega)
    have c1 : (!(decide (1 ≤ ((dg q).length : Int)) && decide (((dg q).length : Int) ≤ 9))) = false := by
      rw [decide_eq_true (by omega), decide_eq_true (by omega)]
      rfl
    rw [c1, if_neg (by simp)]
    have hsl : (signs (dg q)).length = (dg q).length := by rw [len_tl]; simp [signs]
    rw [gd_eq (by omega), Option.bind_some]
    have e2 : mapO P_plain_number_l2 (signs (dg q)) = some ((signs (dg q)).map fun _ => true) := by
      refine mapO_eq fun x hx => ?_
      unfold signs at hx
      obtain ⟨c, hc, rfl⟩ := List.mem_map.mp hx
      have hc : c ∈ tl (dg q) := hc
      rw [dg_tl h0] at hc
      have hd := numL_digits q.toNat c hc
      unfold P_plain_number_l2
      have : pInS false ⟨#[c]⟩ "0123456789" = some (false ^^ decide (c ∈ ("0123456789" : Str).cps.toList)) := rfl
      rw [this, figs]
      have : decide (c ∈ [48, 49, 50, 51, 52, 53, 54, 55, 56, 57]) = true := by
        rw [decide_eq_true_eq]
        simp only [List.mem_cons, List.mem_nil_iff, or_false]
        omega
      rw [this]
      rfl
    rw [e2, Option.bind_some]
    have e3 : ((signs (dg q)).map fun _ => true).all id = true := all_trues fun b hb => by
      obtain ⟨_, _, rfl⟩ := List.mem_map.mp hb
      rfl
    rw [e3, Option.bind_some, if_neg (by simp)]
    have e4 : pIntS (dg q) = some q := by
      unfold pIntS
      rw [if_pos (by omega)]
      have := int_num (n := q.toNat) (Nat.le_trans (numL_len (k := 18) (by decide) (by omega)) (by decide))
      unfold dg
      have hq' : ((q.toNat : Nat) : Int) = q := by omega
      rw [hq'] at this
      exact this
    have h48 : ("0" : Str) = ⟨#[48]⟩ := by decide +kernel
    by_cases hz : q = 0
    · subst hz
      have : dg 0 = "0" := by decide +kernel
      rw [e4, this]
      have e5 : pIxS "0" 0 = some "0" := by decide +kernel
      rw [e5]
      rfl
    · obtain ⟨c, l, e, hc⟩ := numL_head q.toNat (by omega)
      have e5 : pIxS (dg q) 0 = some ⟨#[c]⟩ := by
        unfold pIxS
        rw [if_pos (by omega)]
        have : (dg q).cps.toList = c :: l := (dg_tl h0).trans e
        rw [this]
        have : pIx (c :: l) 0 = some c := ix_eq (by omega) rfl
        unfold pIx at this
        rw [this]
        rfl
      rw [e5, Option.bind_some]
      have : ¬ (⟨#[c]⟩ : Str) = "0" := fun z => by
        rw [h48] at z
        injection z with z
        have := congrArg Array.toList z
        simp at this
        exact hc this
      rw [decide_eq_false this, if_neg (by simp), Option.bind_some, if_neg (by simp), e4, if_pos hq]
      rfl
  · have hl9 : 9 < (dg q).length := by
      rw [len_tl, dg_tl h0]
      exact numL_long 9 _ (by omega)
    have c1 : (!(decide (1 ≤ ((dg q).length : Int)) && decide (((dg q).length : Int) ≤ 9))) = true := by
      rw [decide_eq_false (p := ((dg q).length : Int) ≤ 9) (by omega), Bool.and_false]
      rfl
    rw [c1, if_pos rfl, Option.bind_some, if_pos rfl, if_neg hq]
def pc (q : Int) (l : Str) : Str := if 1 ≤ q then dg q ++ l else ""
theorem pc_len {q : Int} {s : Nat} (h : q < 10 ^ 18) : (pc q (U s)).length ≤ 19 := by
  unfold pc
  split
  · have := (dg_len (q := q) (by omega) h).2
    rw [app_len]
    have : (U s).length = 1 := rfl
    omega
  · rw [emp_len]; omega
theorem pc_ne {q : Int} {s : Nat} (h1 : 1 ≤ q) : 1 ≤ (pc q (U s)).length := by
  unfold pc
  rw [if_pos h1, app_len]
  have : (U s).length = 1 := rfl
  omega
theorem pc_free {q : Int} {s k : Nat} (hk : 57 < k) (hs : k ≠ s) : k ∉ tl (pc q (U s)) := by
  unfold pc
  split
  · rw [tl_append, dg_tl (by omega)]
    intro h
    rcases List.mem_append.mp h with h | h
    · exact numL_free (.inr hk) h
    · have : k ∈ [s] := h
      simp at this
      exact hs this
  · intro h
    rw [emp_cps] at h
    cases h
def tx (q1 q2 q3 : Int) (a b c : Nat) : Str := pc q1 (U a) ++ (pc q2 (U b) ++ pc q3 (U c))
def wt (q1 q2 q3 : Int) (a b c : Nat) : Str := if tx q1 q2 q3 a b c = "" then "0" ++ U c else tx q1 q2 q3 a b c
theorem app_as (x y z : Str) : x ++ y ++ z = x ++ (y ++ z) := ext_tl (by rw [tl_append, tl_append, tl_append, tl_append, List.append_assoc])
theorem u_step {n w : Int} {s : Nat} {f : Str} (hn : 0 ≤ n ∧ n < 10 ^ 18) (hw : 0 < w ∧ w < 1000) (hf : f.length ≤ 1000) : P_units_text_b2 (U s, w) (f, n) = some (f ++ pc (n / w) (U s), n % w) := by
  have h0 : 0 ≤ n / w := Int.ediv_nonneg hn.1 (by omega)
  have h1 : n / w ≤ n := Int.ediv_le_self w hn.1
  have hl := dg_len h0 (by omega)
  have hs : (U s).length = 1 := rfl
  have hc : w ≤ n ↔ 1 ≤ n / w := by
    rw [Int.le_ediv_iff_mul_le hw.1]
    omega
  unfold P_units_text_b2 pc
  have e1 : pDiv n w = some (n / w) := div_eq (by omega)
  have e2 : pMod n w = some (n % w) := mod_eq (by omega)
  have e3 : pCatS (dg (n / w)) (U s) = some (dg (n / w) ++ U s) := catS_eq (by omega)
  by_cases hc' : w ≤ n
  · rw [if_pos (by simpa using hc'), if_pos (hc.mp hc')]
    simp only [e1, str_dg h0 (by omega), e3, Option.bind_some, e2]
    rw [catS_eq (by rw [app_len]; omega)]
    rfl
  · rw [if_neg (by simpa using hc'), if_neg (fun z => hc' (hc.mpr z)), app_emp]
    simp only [Option.bind_some, e2]
structure U3 (v w : Int) (a b c : Nat) : Prop where
  hv : 0 < v ∧ v < 1000
  hw : 0 < w ∧ w < 1000
  ha : 57 < a
  hb : 57 < b
  hc : 57 < c
  ha' : a < 128
  hb' : b < 128
  hc' : c < 128
  ab : a ≠ b
  ac : a ≠ c
  bc : b ≠ c
def wn (n v w : Int) (a b c : Nat) : Str := wt (n / v) (n % v / w) (n % v % w) a b c
section
variable {v w : Int} {a b c : Nat}
theorem U3.q (u : U3 v w a b c) {n : Int} (hn : 0 ≤ n ∧ n < 10 ^ 18) : (0 ≤ n / v ∧ n / v < 10 ^ 18) ∧ (0 ≤ n % v / w ∧ n % v / w < 1000) ∧ (0 ≤ n % v % w ∧ n % v % w < 1000) ∧ n = n / v * v + n % v / w * w + n % v % w := by
  have h1 := u.hv
  have h2 := u.hw
  have a1 : 0 ≤ n / v := Int.ediv_nonneg hn.1 (by omega)
  have a2 : n / v ≤ n := Int.ediv_le_self v hn.1
  have a3 := Int.emod_nonneg n (b := v) (by omega)
  have a4 := Int.emod_lt_of_pos n h1.1
  have a5 : 0 ≤ n % v / w := Int.ediv_nonneg a3 (by omega)
  have a6 : n % v / w ≤ n % v := Int.ediv_le_self w a3
  have a7 := Int.emod_nonneg (n % v) (b := w) (by omega)
  have a8 := Int.emod_lt_of_pos (n % v) h2.1
  refine ⟨⟨a1, by omega⟩, ⟨a5, by omega⟩, ⟨a7, by omega⟩, ?_⟩
  have e1 := Int.mul_ediv_add_emod n v
  have e2 := Int.mul_ediv_add_emod (n % v) w
  rw [Int.mul_comm] at e1 e2
  omega
theorem units_text (u : U3 v w a b c) {n : Int} (hn : 0 ≤ n ∧ n < 10 ^ 18) : P_units_text n [(U a, v), (U b, w), (U c, 1)] = some (wn n v w a b c) := by
  obtain ⟨g1, g2, g3, _⟩ := u.q hn
  have h1 := u.hv
  have h2 := u.hw
  have a3 := Int.emod_nonneg n (b := v) (by omega)
  have a4 := Int.emod_lt_of_pos n h1.1
  have l1 := pc_len (s := a) g1.2
  have l2 := pc_len (q := n % v / w) (s := b) (by omega)
  have l3 := pc_len (q := n % v % w) (s := c) (by omega)
  unfold P_units_text
  rw [Option.bind_some]
  have e : forP P_units_text_b2 [(U a, v), (U b, w), (U c, 1)] (("" : Str), n) = some (tx (n / v) (n % v / w) (n % v % w) a b c, n % v % w % 1) := by
    show (P_units_text_b2 (U a, v) ("", n)).bind _ = _
    rw [u_step hn h1 (by rw [emp_len]; omega), Option.bind_some, emp_app]
    show (P_units_text_b2 (U b, w) _).bind _ = _
    rw [u_step ⟨a3, by omega⟩ h2 (by omega), Option.bind_some]
    show (P_units_text_b2 (U c, 1) _).bind _ = _
    rw [u_step ⟨g3.1, by omega⟩ (by omega) (by rw [app_len]; omega), Option.bind_some, Int.ediv_one]
    unfold tx
    rw [app_as]
    rfl
  rw [e, Option.bind_some]
  unfold wn wt
  by_cases hz : tx (n / v) (n % v / w) (n % v % w) a b c = ""
  · rw [if_pos (by simpa using hz), if_pos hz]
    have e2 : pIx [(U a, v), (U b, w), (U c, (1 : Int))] (-1) = some (U c, 1) := rfl
    have e3 : pCatS "0" (U c) = some ("0" ++ U c) := catS_eq (by
      have : ("0" : Str).length = 1 := by decide +kernel
      have : (U c).length = 1 := rfl
      omega)
    rw [e2, Option.bind_some]
    show (pCatS "0" (U c)).bind _ = _
    rw [e3]
    rfl
  · rw [if_neg (by simpa using hz), if_neg hz]
theorem b_hit {q u found : Int} {s : Nat} {t : Str} (hs : 57 < s) (h0 : 0 ≤ q) (h1 : q < 10 ^ 18) (hu : 0 < u ∧ u < 1000) (ht : t.length ≤ 1000) :
    P_units_in_b2 (U s, u) (found, dg q ++ (U s ++ t)) = some (if q < 10 ^ 9 then .nx (found + q * u, t) else .rt none) := by
  have hl := dg_len h0 h1
  have hsl : (U s).length = 1 := rfl
  have e1 : pPartition (dg q ++ (U s ++ t)) (U s) = some (dg q, U s, t) := by
    unfold pPartition
    rw [if_pos ⟨rfl, by rw [app_len, app_len]; omega⟩, ← app_as, partition_app (y := U s) (s := s) (S := []) rfl]
    rw [dg_tl h0]
    exact numL_free (.inr hs)
  unfold P_units_in_b2
  rw [e1, Option.bind_some]
  dsimp only
  rw [decide_eq_true rfl, if_pos rfl, plain_dg h0 h1, Option.bind_some]
  by_cases hq : q < 10 ^ 9
  · rw [if_pos hq, if_pos hq]
    show (pMul q u).bind _ = _
    rw [mul_eq (.inr (by omega))]
    rfl
  · rw [if_neg hq, if_neg hq]
    rfl
theorem b_miss {u found : Int} {s : Nat} {t : Str} (h : s ∉ tl t) (ht : t.length ≤ 1000) : P_units_in_b2 (U s, u) (found, t) = some (.nx (found, t)) := by
  have e1 : pPartition t (U s) = some (t, Str.empty, Str.empty) := by
    unfold pPartition
    rw [if_pos ⟨rfl, by omega⟩, partition_none (y := U s) (s := s) (S := []) rfl h]
  unfold P_units_in_b2
  rw [e1, Option.bind_some]
  dsimp only
  have : ¬ Str.empty = U s := fun z => by
    have := congrArg (fun x : Str => x.cps.toList) z
    cases this
  rw [decide_eq_false this, if_neg (by simp)]
theorem b_pc {q u found : Int} {s : Nat} {t : Str} (hs : 57 < s) (hst : s ∉ tl t) (h0 : 0 ≤ q) (h1 : q < 10 ^ 18) (hu : 0 < u ∧ u < 1000) (ht : t.length ≤ 1000) :
    P_units_in_b2 (U s, u) (found, pc q (U s) ++ t) = some (if q < 10 ^ 9 then .nx (found + q * u, t) else .rt none) := by
  unfold pc
  by_cases hq : 1 ≤ q
  · rw [if_pos hq, app_as]
    exact b_hit hs h0 h1 hu ht
  · have : q = 0 := by omega
    subst this
    rw [if_neg (by omega), emp_app, b_miss hst ht, if_pos (by omega), Int.zero_mul, Int.add_zero]
theorem tx_ne {q1 q2 q3 : Int} (h : 1 ≤ q1 ∨ 1 ≤ q2 ∨ 1 ≤ q3) : ¬ tx q1 q2 q3 a b c = "" := by
  refine len_emp ?_
  unfold tx
  rw [app_len, app_len]
  rcases h with h | h | h
  · have := pc_ne (s := a) h; omega
  · have := pc_ne (s := b) h; omega
  · have := pc_ne (s := c) h; omega
theorem units_in (u : U3 v w a b c) {n : Int} (hn : 1 ≤ n ∧ n < 10 ^ 18) : P_units_in (wn n v w a b c) [(U a, v), (U b, w), (U c, 1)] = some (if n / v < 10 ^ 9 then some n else none) := by
  obtain ⟨g1, g2, g3, g4⟩ := u.q (n := n) ⟨by omega, hn.2⟩
  have h1 := u.hv
  have h2 := u.hw
  have l2 := pc_len (q := n % v / w) (s := b) (by omega)
  have l3 := pc_len (q := n % v % w) (s := c) (by omega)
  have hne : ¬ tx (n / v) (n % v / w) (n % v % w) a b c = "" := by
    refine tx_ne ?_
    by_cases z1 : 1 ≤ n / v
    · exact .inl z1
    · by_cases z2 : 1 ≤ n % v / w
      · exact .inr (.inl z2)
      · have e1 : n / v = 0 := by omega
        have e2 : n % v / w = 0 := by omega
        rw [e1, e2] at g4
        omega
  have ew : wn n v w a b c = tx (n / v) (n % v / w) (n % v % w) a b c := if_neg hne
  have hut := units_text u (n := n) ⟨by omega, hn.2⟩
  unfold P_units_in
  rw [ew] at hut ⊢
  have f1 : a ∉ tl (pc (n % v / w) (U b) ++ pc (n % v % w) (U c)) := by
    rw [tl_append]
    intro h
    rcases List.mem_append.mp h with h | h
    · exact pc_free u.ha u.ab h
    · exact pc_free u.ha u.ac h
  have f2 : b ∉ tl (pc (n % v % w) (U c)) := pc_free u.hb u.bc
  have f3 : c ∉ tl ("" : Str) := by
    rw [emp_cps]
    intro h
    cases h
  have s1 : P_units_in_b2 (U a, v) (0, tx (n / v) (n % v / w) (n % v % w) a b c) = _ := b_pc (found := 0) u.ha f1 g1.1 g1.2 h1 (by rw [app_len]; omega)
  have s2 : P_units_in_b2 (U b, w) (0 + n / v * v, pc (n % v / w) (U b) ++ pc (n % v % w) (U c)) = _ := b_pc (found := 0 + n / v * v) u.hb f2 g2.1 (by omega) h2 (by omega)
  have s3 : P_units_in_b2 (U c, 1) (0 + n / v * v + n % v / w * w, pc (n % v % w) (U c) ++ "") = _ := b_pc (found := 0 + n / v * v + n % v / w * w) (u := 1) u.hc f3 g3.1 (by omega) (by omega) (by rw [emp_len]; omega)
  rw [app_emp] at s3
  rw [if_pos (by omega)] at s2 s3
  have e : forR P_units_in_b2 [(U a, v), (U b, w), (U c, 1)] (0, tx (n / v) (n % v / w) (n % v % w) a b c) = some (if n / v < 10 ^ 9 then .nx (n, "") else .rt none) := by
    unfold forR
    rw [s1, Option.bind_some]
    by_cases hq : n / v < 10 ^ 9
    · rw [if_pos hq, if_pos hq]
      dsimp only
      unfold forR
      rw [s2, Option.bind_some]
      dsimp only
      unfold forR
      rw [s3, Option.bind_some]
      dsimp only
      unfold forR
      have : 0 + n / v * v + n % v / w * w + n % v % w * 1 = n := by omega
      rw [this]
    · rw [if_neg hq, if_neg hq]
  rw [e, Option.bind_some]
  by_cases hq : n / v < 10 ^ 9
  · rw [if_pos hq, if_pos hq]
    show ((if decide (("" : Str) = "") = true then _ else _ : Option Bool)).bind _ = _
    rw [decide_eq_true rfl, if_pos rfl]
    dsimp only
    rw [hut, Option.bind_some, decide_eq_true rfl]
    rfl
  · rw [if_neg hq, if_neg hq]
    rfl
end
theorem uw : U3 112 14 99 115 112 := ⟨by omega, by omega, by omega, by omega, by omega, by omega, by omega, by omega, by omega, by omega, by omega⟩
theorem ul : U3 320 40 109 102 114 := ⟨by omega, by omega, by omega, by omega, by omega, by omega, by omega, by omega, by omega, by omega, by omega⟩
theorem vw_eq : v_WEIGHT_UNITS = [(U 99, 112), (U 115, 14), (U 112, 1)] := by decide +kernel
theorem vl_eq : v_LENGTH_UNITS = [(U 109, 320), (U 102, 40), (U 114, 1)] := by decide +kernel
abbrev ww (n : Int) : Str := wn n 112 14 99 115 112
abbrev wl (n : Int) : Str := wn n 320 40 109 102 114
theorem weight_0 : P_weight_in "0p" = some (some 0) := by decide +kernel
theorem length_0 : P_length_in "0r" = some (some 0) := by decide +kernel
theorem ww_0 : ww 0 = "0p" := by decide +kernel
theorem wl_0 : wl 0 = "0r" := by decide +kernel
theorem wide_wp {b : List Int} {n m : Int} (h : Bok b n) (hn : n + 10 < 2147483648) (hm : 0 < m) : Wp (P_w_wide b m) fun r => (0 ≤ r.1 ∧ r.1 < m) ∧ Bok r.2 (n + 4) := by
  unfold P_w_wide
  refine wp_be (rng_eq (by omega)) ?_
  refine wp_bind (wp_loop (I := fun j s => Bok s.1 (n + j)) (by simpa using h) ?_) fun s hs => ?_
  · intro j x s hx hs
    have hj := (List.getElem?_eq_some_iff.mp hx).1
    rw [rangeI_len] at hj
    unfold P_w_wide_b2
    refine wp_bind (take_wp hs (by omega) (by omega)) fun r hr => ?_
    refine wp_let ?_
    refine wp_some ?_
    have := hr.2
    have e : n + (j : Int) + 1 = n + ((j + 1 : Nat) : Int) := by omega
    rw [← e]
    exact this
  · refine wp_be (mod_eq hm) ?_
    refine wp_some ⟨⟨Int.emod_nonneg _ (by omega), Int.emod_lt_of_pos _ hm⟩, ?_⟩
    rw [rangeI_len] at hs
    exact hs
def isD (c : Nat) : Bool := decide (48 ≤ c ∧ c ≤ 57)
def scan : List Nat → List Nat → List (List Nat × Nat) → Option (List (List Nat × Nat))
  | [], f, acc => if f = [] ∧ acc ≠ [] then some acc else none
  | c :: cs, f, acc => if isD c = true then scan cs (f ++ [c]) acc else if f ≠ [] then scan cs [] (acc ++ [(f, c)]) else none
def flat (ps : List (List Nat × Nat)) : List Nat := ps.flatMap fun p => p.1 ++ [p.2]
structure GoodP (p : List Nat × Nat) : Prop where
  ne : p.1 ≠ []
  dg : ∀ c ∈ p.1, isD c = true
  lt : isD p.2 = false
theorem flat_app (a b : List (List Nat × Nat)) : flat (a ++ b) = flat a ++ flat b := by
  unfold flat
  rw [List.flatMap_append]
theorem flat_one (p : List Nat × Nat) : flat [p] = p.1 ++ [p.2] := by
  unfold flat
  simp
theorem flat_cons (p : List Nat × Nat) (ps : List (List Nat × Nat)) : flat (p :: ps) = p.1 ++ p.2 :: flat ps := by
  unfold flat
  simp
theorem scan_sound : ∀ (cs f : List Nat) (acc ps : List (List Nat × Nat)), (∀ c ∈ f, isD c = true) → (∀ p ∈ acc, GoodP p) → scan cs f acc = some ps → flat ps = flat acc ++ f ++ cs ∧ (∀ p ∈ ps, GoodP p) ∧ ps ≠ []
  | [], f, acc, ps, hf, ha, h => by
    unfold scan at h
    split at h
    · next q =>
      cases h
      rw [q.1]
      exact ⟨by simp, ha, q.2⟩
    · cases h
  | c :: cs, f, acc, ps, hf, ha, h => by
    unfold scan at h
    split at h
    · next q =>
      obtain ⟨h1, h2⟩ := scan_sound cs (f ++ [c]) acc ps (fun x hx => by
        rcases List.mem_append.mp hx with hx | hx
        · exact hf x hx
        · rw [List.mem_singleton.mp hx]; exact q) ha h
      exact ⟨by rw [h1]; simp, h2⟩
    · next q =>
      split at h
      · next q2 =>
        obtain ⟨h1, h2⟩ := scan_sound cs [] (acc ++ [(f, c)]) ps (fun x hx => by cases hx) (fun p hp => by
          rcases List.mem_append.mp hp with hp | hp
          · exact ha p hp
          · rw [List.mem_singleton.mp hp]
            exact ⟨q2, hf, by simpa using q⟩) h
        refine ⟨?_, h2⟩
        rw [h1, flat_app, flat_one]
        simp
      · cases h
theorem scan_digits : ∀ (f g : List Nat) (cs : List Nat) (acc : List (List Nat × Nat)), (∀ c ∈ f, isD c = true) → scan (f ++ cs) g acc = scan cs (g ++ f) acc
  | [], g, cs, acc, _ => by rw [List.append_nil]; rfl
  | c :: f, g, cs, acc, h => by
    show scan (c :: (f ++ cs)) g acc = _
    rw [scan, if_pos (h c List.mem_cons_self), scan_digits f (g ++ [c]) cs acc fun x hx => h x (List.mem_cons_of_mem _ hx)]
    simp
theorem scan_flat : ∀ (ps acc : List (List Nat × Nat)), (∀ p ∈ ps, GoodP p) → (acc ++ ps) ≠ [] → scan (flat ps) [] acc = some (acc ++ ps)
  | [], acc, _, h => by
    rw [List.append_nil] at h ⊢
    show (if _ then _ else _ : Option (List (List Nat × Nat))) = _
    rw [if_pos ⟨rfl, h⟩]
  | p :: ps, acc, hp, h => by
    have g := hp p List.mem_cons_self
    rw [flat_cons, scan_digits p.1 [] _ acc g.dg, List.nil_append, scan, if_neg (by rw [g.lt]; decide), if_pos g.ne, scan_flat ps (acc ++ [(p.1, p.2)]) (fun q hq => hp q (List.mem_cons_of_mem _ hq)) (by simp)]
    simp
theorem num_back : ∀ (n : Nat) (f : List Nat), f.length ≤ n → f ≠ [] → (∀ c ∈ f, isD c = true) → f.head? ≠ some 48 → numL (NumText.digitsVal f) = f ∧ 1 ≤ NumText.digitsVal f := by
  have hv : ∀ (g : List Nat) (d : Nat), NumText.digitsVal (g ++ [d]) = NumText.digitsVal g * 10 + (d - 48) := fun g d => by
    unfold NumText.digitsVal
    rw [List.foldl_append]
    rfl
  intro n
  induction n with
  | zero => intro f hl hne; exact absurd (List.length_eq_zero_iff.mp (by omega)) hne
  | succ n ih =>
    intro f hl hne hd hh
    obtain ⟨g, d, rfl⟩ : ∃ g d, f = g ++ [d] := ⟨f.dropLast, f.getLast hne, (List.dropLast_concat_getLast hne).symm⟩
    have hdd := of_decide_eq_true (hd d (by simp))
    rw [hv]
    by_cases hg : g = []
    · subst hg
      have : d ≠ 48 := fun e => hh (by rw [e]; rfl)
      rw [show NumText.digitsVal [] = 0 from rfl, Nat.zero_mul, Nat.zero_add, numL_lt (by omega)]
      exact ⟨by simp; omega, by omega⟩
    · obtain ⟨h1, h2⟩ := ih g (by rw [List.length_append] at hl; simp at hl; omega) hg (fun c hc => hd c (by simp [hc])) (fun e => hh (by
        cases g with
        | nil => exact absurd rfl hg
        | cons x g => exact e))
      refine ⟨?_, by omega⟩
      rw [numL_step (by omega), show (NumText.digitsVal g * 10 + (d - 48)) / 10 = NumText.digitsVal g by omega, show (NumText.digitsVal g * 10 + (d - 48)) % 10 = d - 48 by omega, h1, show 48 + (d - 48) = d by omega]
theorem digs_isD {c : Nat} (n : Nat) (h : c ∈ numL n) : isD c = true := by
  have := numL_digits n c h
  unfold isD
  exact decide_eq_true (by omega)
def plc (a b c x : Nat) : Int := if x = a then 0 else if x = b then 1 else if x = c then 2 else -1
def unitAt (v w : Int) (p : Int) : Int := if p = 0 then v else if p = 1 then w else 1
def mostAt (v w : Int) (p : Int) : Int := if p = 0 then 1000000000 else if p = 1 then v / w else w
def rd (v w : Int) (a b c : Nat) : Int → Int → List (List Nat × Nat) → Option Int
  | _, found, [] => some found
  | last, found, p :: ps => if plc a b c p.2 ≤ last ∨ p.1.head? = some 48 ∨ 9 < p.1.length ∨ mostAt v w (plc a b c p.2) ≤ (NumText.digitsVal p.1 : Int) then none
      else rd v w a b c (plc a b c p.2) (found + (NumText.digitsVal p.1 : Int) * unitAt v w (plc a b c p.2)) ps
def pcL (q : Int) (s : Nat) : List Nat := if 1 ≤ q then numL q.toNat ++ [s] else []
def ppL (q : Int) (s : Nat) : List (List Nat × Nat) := if 1 ≤ q then [(numL q.toNat, s)] else []
section
variable {v w : Int} {a b c : Nat}
theorem plc_a : plc a b c a = 0 := if_pos rfl
theorem plc_b (u : U3 v w a b c) : plc a b c b = 1 := by
  unfold plc
  rw [if_neg (fun e => u.ab e.symm), if_pos rfl]
theorem plc_c (u : U3 v w a b c) : plc a b c c = 2 := by
  unfold plc
  rw [if_neg (fun e => u.ac e.symm), if_neg (fun e => u.bc e.symm), if_pos rfl]
theorem plc_inv {x : Nat} : (plc a b c x = 0 → x = a) ∧ (plc a b c x = 1 → x = b) ∧ (plc a b c x = 2 → x = c) ∧ -1 ≤ plc a b c x ∧ plc a b c x ≤ 2 := by
  unfold plc
  split
  · next h => exact ⟨fun _ => h, (by omega), (by omega), by omega, by omega⟩
  split
  · next h => exact ⟨(by omega), fun _ => h, (by omega), by omega, by omega⟩
  split
  · next h => exact ⟨(by omega), (by omega), fun _ => h, by omega, by omega⟩
  · exact ⟨(by omega), (by omega), (by omega), by omega, by omega⟩
theorem rd_cons {last found n : Int} {p : List Nat × Nat} {ps : List (List Nat × Nat)} (g : GoodP p) (h : rd v w a b c last found (p :: ps) = some n) : ∃ q : Int, 1 ≤ q ∧ q < mostAt v w (plc a b c p.2) ∧ last < plc a b c p.2 ∧ p.1 = numL q.toNat ∧ rd v w a b c (plc a b c p.2) (found + q * unitAt v w (plc a b c p.2)) ps = some n := by
  unfold rd at h
  split at h
  · cases h
  · next q =>
    have q1 : ¬ plc a b c p.2 ≤ last := fun e => q (.inl e)
    have q2 : ¬ p.1.head? = some 48 := fun e => q (.inr (.inl e))
    have q3 : ¬ mostAt v w (plc a b c p.2) ≤ (NumText.digitsVal p.1 : Int) := fun e => q (.inr (.inr (.inr e)))
    obtain ⟨h1, h2⟩ := num_back _ p.1 (Nat.le_refl _) g.ne g.dg q2
    refine ⟨(NumText.digitsVal p.1 : Int), by omega, by omega, by omega, ?_, h⟩
    rw [Int.toNat_natCast]
    exact h1.symm
theorem rd_nil2 {last found n : Int} {ps : List (List Nat × Nat)} (hp : ∀ p ∈ ps, GoodP p) (hl : 2 ≤ last) (h : rd v w a b c last found ps = some n) : ps = [] ∧ n = found := by
  cases ps with
  | nil => cases h; exact ⟨rfl, rfl⟩
  | cons p ps =>
    obtain ⟨q, _, _, h3, _⟩ := rd_cons (hp p List.mem_cons_self) h
    have := (plc_inv (a := a) (b := b) (c := c) (x := p.2)).2.2.2.2
    omega
theorem pcL_zero {s : Nat} : pcL 0 s = [] := if_neg (by omega)
theorem pcL_pos {q : Int} {s : Nat} (h : 1 ≤ q) : pcL q s = numL q.toNat ++ [s] := if_pos h
theorem rd_from1 (hw : 1 ≤ w) {found n : Int} {ps : List (List Nat × Nat)} (hp : ∀ p ∈ ps, GoodP p) (h : rd v w a b c 1 found ps = some n) : ∃ q3, (0 ≤ q3 ∧ q3 < w) ∧ flat ps = pcL q3 c ∧ n = found + q3 := by
  cases ps with
  | nil => cases h; exact ⟨0, by omega, by rw [pcL_zero]; rfl, by omega⟩
  | cons p ps =>
    obtain ⟨q, h1, h2, h3, h4, h5⟩ := rd_cons (hp p List.mem_cons_self) h
    have hi := plc_inv (a := a) (b := b) (c := c) (x := p.2)
    have e2 : plc a b c p.2 = 2 := by omega
    rw [e2] at h2 h5
    obtain ⟨e3, e4⟩ := rd_nil2 (fun q hq => hp q (List.mem_cons_of_mem _ hq)) (by omega) h5
    refine ⟨q, ⟨by omega, h2⟩, ?_, ?_⟩
    · rw [flat_cons, e3, h4, hi.2.2.1 e2, pcL_pos h1]
      rfl
    · rw [e4]
      show found + q * 1 = _
      rw [Int.mul_one]
theorem rd_from0 (hw : 1 ≤ w) (hv : 1 ≤ v / w) {found n : Int} {ps : List (List Nat × Nat)} (hp : ∀ p ∈ ps, GoodP p) (h : rd v w a b c 0 found ps = some n) : ∃ q2 q3, (0 ≤ q2 ∧ q2 < v / w) ∧ (0 ≤ q3 ∧ q3 < w) ∧ flat ps = pcL q2 b ++ pcL q3 c ∧ n = found + q2 * w + q3 := by
  cases ps with
  | nil => cases h; exact ⟨0, 0, by omega, by omega, by rw [pcL_zero, pcL_zero]; rfl, by omega⟩
  | cons p ps =>
    obtain ⟨q, h1, h2, h3, h4, h5⟩ := rd_cons (hp p List.mem_cons_self) h
    have hi := plc_inv (a := a) (b := b) (c := c) (x := p.2)
    have hp2 : ∀ p ∈ ps, GoodP p := fun q hq => hp q (List.mem_cons_of_mem _ hq)
    rcases (show plc a b c p.2 = 1 ∨ plc a b c p.2 = 2 by omega) with e2 | e2
    · rw [e2] at h2 h5
      obtain ⟨q3, g1, g2, g3⟩ := rd_from1 hw hp2 h5
      refine ⟨q, q3, ⟨by omega, h2⟩, g1, ?_, ?_⟩
      · rw [flat_cons, g2, h4, hi.2.1 e2, pcL_pos h1]
        simp
      · rw [g3]
        rfl
    · rw [e2] at h2 h5
      obtain ⟨e3, e4⟩ := rd_nil2 hp2 (by omega) h5
      refine ⟨0, q, by omega, ⟨by omega, h2⟩, ?_, ?_⟩
      · rw [flat_cons, e3, h4, hi.2.2.1 e2, pcL_pos h1, pcL_zero]
        rfl
      · rw [e4]
        show found + q * 1 = _
        omega
theorem rd_all (hw : 1 ≤ w) (hv : 1 ≤ v / w) {n : Int} {ps : List (List Nat × Nat)} (hp : ∀ p ∈ ps, GoodP p) (h : rd v w a b c (-1) 0 ps = some n) : ∃ q1 q2 q3, (0 ≤ q1 ∧ q1 < 1000000000) ∧ (0 ≤ q2 ∧ q2 < v / w) ∧ (0 ≤ q3 ∧ q3 < w) ∧ flat ps = pcL q1 a ++ (pcL q2 b ++ pcL q3 c) ∧ n = q1 * v + q2 * w + q3 := by
  cases ps with
  | nil => cases h; exact ⟨0, 0, 0, by omega, by omega, by omega, by rw [pcL_zero, pcL_zero, pcL_zero]; rfl, by omega⟩
  | cons p ps =>
    obtain ⟨q, h1, h2, h3, h4, h5⟩ := rd_cons (hp p List.mem_cons_self) h
    have hi := plc_inv (a := a) (b := b) (c := c) (x := p.2)
    have hp2 : ∀ p ∈ ps, GoodP p := fun q hq => hp q (List.mem_cons_of_mem _ hq)
    rcases (show plc a b c p.2 = 0 ∨ plc a b c p.2 = 1 ∨ plc a b c p.2 = 2 by omega) with e2 | e2 | e2
    · rw [e2] at h2 h5
      obtain ⟨q2, q3, g1, g2, g3, g4⟩ := rd_from0 hw hv hp2 h5
      refine ⟨q, q2, q3, ⟨by omega, h2⟩, g1, g2, ?_, ?_⟩
      · rw [flat_cons, g3, h4, hi.1 e2, pcL_pos h1]
        simp
      · rw [g4]
        show 0 + q * v + _ + _ = _
        omega
    · rw [e2] at h2 h5
      obtain ⟨q3, g1, g2, g3⟩ := rd_from1 hw hp2 h5
      refine ⟨0, q, q3, by omega, ⟨by omega, h2⟩, g1, ?_, ?_⟩
      · rw [flat_cons, g2, h4, hi.2.1 e2, pcL_pos h1, pcL_zero]
        simp
      · rw [g3]
        show 0 + q * w + _ = _
        omega
    · rw [e2] at h2 h5
      obtain ⟨e3, e4⟩ := rd_nil2 hp2 (by omega) h5
      refine ⟨0, 0, q, by omega, by omega, ⟨by omega, h2⟩, ?_, ?_⟩
      · rw [flat_cons, e3, h4, hi.2.2.1 e2, pcL_pos h1, pcL_zero, pcL_zero]
        rfl
      · rw [e4]
        show 0 + q * 1 = _
        omega
theorem pp_flat {q : Int} {s : Nat} : flat (ppL q s) = pcL q s := by
  unfold ppL pcL
  split
  · rw [flat_one]
  · rfl
theorem pp_good {q : Int} {s : Nat} (hs : 57 < s) : ∀ p ∈ ppL q s, GoodP p := fun p hp => by
  unfold ppL at hp
  split at hp
  · rw [List.mem_singleton.mp hp]
    exact ⟨numL_ne _, fun c hc => digs_isD _ hc, decide_eq_false (by omega)⟩
  · cases hp
theorem rd_pp {q last found : Int} {s : Nat} {ps : List (List Nat × Nat)} (h0 : 0 ≤ q) (hm : q < mostAt v w (plc a b c s)) (h9 : q < 1000000000) (hl : last < plc a b c s) {n : Int} (h1 : rd v w a b c (plc a b c s) (found + q * unitAt v w (plc a b c s)) ps = some n) (h2 : q = 0 → rd v w a b c last found ps = some n) : rd v w a b c last found (ppL q s ++ ps) = some n := by
  unfold ppL
  by_cases hq : 1 ≤ q
  · rw [if_pos hq]
    have hv : (NumText.digitsVal (numL q.toNat) : Int) = q := by rw [numL_val]; omega
    show rd v w a b c last found ((numL q.toNat, s) :: ps) = _
    unfold rd
    dsimp only
    rw [if_neg, hv]
    · exact h1
    · rintro (e | e | e | e)
      · omega
      · obtain ⟨x, l, e2, e3⟩ := numL_head q.toNat (by omega)
        rw [e2] at e
        exact e3 (Option.some.inj e)
      · have := numL_len (n := q.toNat) (k := 9) (by decide) (by omega)
        omega
      · rw [hv] at e
        omega
  · rw [if_neg hq]
    exact h2 (by omega)
theorem rd_tail (u : U3 v w a b c) {q found last : Int} (hl : last < 2) (hq : 0 ≤ q ∧ q < w) : rd v w a b c last found (ppL q c ++ []) = some (found + q) := by
  have hw := u.hw
  refine rd_pp hq.1 (by rw [plc_c u]; exact hq.2) (by omega) (by rw [plc_c u]; exact hl) ?_ fun e => ?_
  · rw [plc_c u]
    show some (found + q * 1) = _
    rw [Int.mul_one]
  · show some found = _
    rw [e, Int.add_zero]
theorem rd_mid (u : U3 v w a b c) (hv9 : v / w ≤ 1000) {q2 q3 found last : Int} (hl : last < 1) (h2 : 0 ≤ q2 ∧ q2 < v / w) (h3 : 0 ≤ q3 ∧ q3 < w) : rd v w a b c last found (ppL q2 b ++ (ppL q3 c ++ [])) = some (found + q2 * w + q3) := by
  refine rd_pp h2.1 (by rw [plc_b u]; exact h2.2) (by omega) (by rw [plc_b u]; exact hl) ?_ fun e => ?_
  · rw [plc_b u]
    exact rd_tail u (by omega) h3
  · rw [rd_tail u (by omega) h3, e]
    rw [Int.zero_mul, Int.add_zero]
theorem rd_full (u : U3 v w a b c) (hv9 : v / w ≤ 1000) {q1 q2 q3 : Int} (h1 : 0 ≤ q1 ∧ q1 < 1000000000) (h2 : 0 ≤ q2 ∧ q2 < v / w) (h3 : 0 ≤ q3 ∧ q3 < w) : rd v w a b c (-1) 0 (ppL q1 a ++ (ppL q2 b ++ (ppL q3 c ++ []))) = some (q1 * v + q2 * w + q3) := by
  refine rd_pp h1.1 (by rw [plc_a]; exact h1.2) h1.2 (by rw [plc_a]; decide) ?_ fun e => ?_
  · rw [plc_a]
    have := rd_mid u hv9 (found := 0 + q1 * v) (last := 0) (by omega) h2 h3
    rw [Int.zero_add] at this
    exact (by rw [show unitAt v w 0 = v from rfl, Int.zero_add]; exact this)
  · rw [rd_mid u hv9 (by omega) h2 h3, e]
    congr 1
    omega
end
theorem isLP_of {M : List MC} {n : Nat} {es : List PV} (h : M[n]? = some (.lst es)) : isLP M (.ref n) = true := by
  unfold isLP; simp only [h]
theorem app_of {M : List MC} {n : Nat} {ps : List PV} {x : PV} (h : M[n]? = some (.lst ps)) (hl : ps.length < 100000) : gAppP M (.ref n) [x] = some (.dat .none, M.set n (.lst (ps ++ [x]))) := by
  unfold gAppP
  simp only [h]
  rw [if_pos hl]
theorem rdAllP_dat {M : List MC} {f : Nat} : ∀ ds : List PyData, rdAllP (PV.deep M f) (ds.map .dat) = some ds
  | [] => rfl
  | d :: ds => by
    show (PV.deep M f (.dat d)).bind (fun d => (rdAllP (PV.deep M f) (ds.map .dat)).map (d :: ·)) = _
    rw [rdAllP_dat ds]
    cases f <;> rfl
def cL {α : Type} (a : α → PyData) (l : List α) : MC := .lst (l.map fun x => .dat (a x))
theorem deep_L {α : Type} {a : α → PyData} {M : List MC} {n : Nat} {l : List α} (h : M[n]? = some (cL a l)) : PV.deep M 9 (.ref n) = some (eL a l) := by
  have e : (l.map fun x => PV.dat (a x)) = (l.map a).map .dat := by
    rw [List.map_map]; rfl
  unfold PV.deep cL at *
  simp only [h, e, rdAllP_dat]
  rfl
section
variable {β : Type} {b : β → PyData}
variable {M : List MC} {n : Nat} {l : List (Str × β)} {k : Str}
end
theorem bE {α β : Type} {x : Option α} {f : α → Option β} {r : Option β} {v : α} (h : x = some v) (k : f v = r) : x.bind f = r := by rw [h]; exact k
theorem mapO_all {α β : Type} {f : α → Option β} {g : α → β} : ∀ {l : List α}, (∀ x ∈ l, f x = some (g x)) → mapO f l = some (l.map g)
  | [], _ => rfl
  | x :: l, h => by
    show (f x).bind _ = _
    rw [h x List.mem_cons_self, Option.bind_some, mapO_all fun y hy => h y (List.mem_cons_of_mem _ hy)]
    rfl
theorem appL_of {α : Type} {e : α → PyData} {M : List MC} {n : Nat} {l : List α} {x : α} (h : M[n]? = some (cL e l)) (hl : l.length < 100000) : gAppP M (.ref n) [.dat (e x)] = some (.dat .none, M.set n (cL e (l ++ [x]))) := by
  unfold cL at *
  rw [app_of h (by rw [List.length_map]; exact hl), List.map_append]
  rfl
open TL
def S (l : List Nat) : Str := ⟨l.toArray⟩
theorem tl_S (l : List Nat) : tl (S l) = l := rfl
theorem S_tl (x : Str) : S (tl x) = x := ext_tl rfl
theorem S_len (l : List Nat) : (S l).length = l.length := rfl
theorem S_nil : S [] = "" := by decide +kernel
theorem S_emp {l : List Nat} : S l = "" ↔ l = [] := by
  rw [← S_nil]
  exact ⟨fun h => congrArg tl h, fun h => by rw [h]⟩
theorem S_app (a b : List Nat) : S a ++ S b = S (a ++ b) := ext_tl (by rw [tl_append, tl_S, tl_S, tl_S])
theorem S_one (c : Nat) : S [c] = U c := rfl
theorem signs_S (l : List Nat) : signs (S l) = l.map U := rfl
def sc : List Nat → List Nat → List (List Nat × Nat) → Option (List Nat × List (List Nat × Nat))
  | [], f, acc => some (f, acc)
  | c :: cs, f, acc => if isD c = true then sc cs (f ++ [c]) acc else if f ≠ [] then sc cs [] (acc ++ [(f, c)]) else none
theorem scan_sc : ∀ (cs f : List Nat) (acc : List (List Nat × Nat)), scan cs f acc = (sc cs f acc).bind fun z => if z.1 = [] ∧ z.2 ≠ [] then some z.2 else none
  | [], f, acc => rfl
  | c :: cs, f, acc => by
    unfold scan sc
    split
    · exact scan_sc cs _ acc
    · split
      · exact scan_sc cs [] _
      · rfl
abbrev enP (p : List Nat × Nat) : Str × Str := (S p.1, U p.2)
abbrev eP2 : Str × Str → PyData := eT2 eS eS
abbrev stP (ps : List (List Nat × Nat)) : List MC := [cL eP2 (ps.map enP)]
theorem figs_in (c : Nat) : pInS false (U c) ("0123456789" : Str) = some (isD c) := by
  show some (false ^^ decide (c ∈ ("0123456789" : Str).cps.toList)) = _
  rw [figs, Bool.false_xor]
  unfold isD
  congr 1
  refine decide_eq_decide.mpr ?_
  simp only [List.mem_cons, List.mem_nil_iff, or_false]
  omega
theorem parts_loop : ∀ (cs f : List Nat) (acc : List (List Nat × Nat)), f.length + cs.length ≤ 10000 → acc.length + cs.length ≤ 10000 →
    (∃ M, sc cs f acc = none ∧ forR P_w_parts_b2 (cs.map U) (.ref 0, S f, stP acc) = some (.rt (.dat .none, M))) ∨ ∃ z, sc cs f acc = some z ∧ forR P_w_parts_b2 (cs.map U) (.ref 0, S f, stP acc) = some (.nx (.ref 0, S z.1, stP z.2)) ∧ z.2.length ≤ acc.length + cs.length
  | [], f, acc, _, _ => .inr ⟨(f, acc), rfl, rfl, by simp⟩
  | c :: cs, f, acc, h1, h2 => by
    rw [List.length_cons] at h1 h2
    by_cases hd : isD c = true
    · have e : P_w_parts_b2 (U c) (.ref 0, S f, stP acc) = some (.nx (.ref 0, S (f ++ [c]), stP acc)) := by
        unfold P_w_parts_b2
        refine bE (figs_in c) ?_
        rw [hd]
        refine (if_pos rfl).trans ?_
        refine bE (v := S (f ++ [c])) ?_ rfl
        rw [← S_app, S_one]
        exact catS_eq (by rw [S_len]; show f.length + 1 ≤ _; omega)
      rcases parts_loop cs (f ++ [c]) acc (by rw [List.length_append]; simp; omega) (by omega) with ⟨M, g1, g2⟩ | ⟨z, g1, g2, g3⟩
      · refine .inl ⟨M, by unfold sc; rw [if_pos hd]; exact g1, ?_⟩
        show (P_w_parts_b2 (U c) (.ref 0, S f, stP acc)).bind _ = _
        rw [e]
        exact g2
      · refine .inr ⟨z, by unfold sc; rw [if_pos hd]; exact g1, ?_, by rw [List.length_cons]; omega⟩
        show (P_w_parts_b2 (U c) (.ref 0, S f, stP acc)).bind _ = _
        rw [e]
        exact g2
    · have hd2 : isD c = false := by simpa using hd
      by_cases hf : f = []
      · refine .inl ⟨stP acc, by unfold sc; rw [if_neg hd, if_neg (by simpa using hf)], ?_⟩
        show (P_w_parts_b2 (U c) (.ref 0, S f, stP acc)).bind _ = _
        have e : P_w_parts_b2 (U c) (.ref 0, S f, stP acc) = some (.rt (.dat .none, stP acc)) := by
          unfold P_w_parts_b2
          refine bE (figs_in c) ?_
          rw [hd2]
          refine (if_neg (by decide)).trans ?_
          exact if_neg (by rw [decide_eq_true (S_emp.mpr hf)]; decide)
        rw [e]
        rfl
      · have e : P_w_parts_b2 (U c) (.ref 0, S f, stP acc) = some (.nx (.ref 0, S [], stP (acc ++ [(f, c)]))) := by
          unfold P_w_parts_b2
          refine bE (figs_in c) ?_
          rw [hd2]
          refine (if_neg (by decide)).trans ?_
          refine (if_pos (by rw [decide_eq_false (fun e => hf (S_emp.mp e))]; decide)).trans ?_
          refine bE (gd_eq (isLP_of (n := 0) rfl)) ?_
          refine bE (appL_of (n := 0) (e := eP2) (l := acc.map enP) (x := enP (f, c)) rfl (by rw [List.length_map]; omega)) ?_
          refine bE (v := S []) (congrArg some S_nil.symm) ?_
          show some (Fw.nx (PV.ref 0, S [], [cL eP2 (acc.map enP ++ [enP (f, c)])])) = _
          unfold stP
          rw [List.map_append]
          rfl
        rcases parts_loop cs [] (acc ++ [(f, c)]) (by simp; omega) (by rw [List.length_append]; simp; omega) with ⟨M, g1, g2⟩ | ⟨z, g1, g2, g3⟩
        · refine .inl ⟨M, by unfold sc; rw [if_neg hd, if_pos hf]; exact g1, ?_⟩
          show (P_w_parts_b2 (U c) (.ref 0, S f, stP acc)).bind _ = _
          rw [e]
          exact g2
        · refine .inr ⟨z, by unfold sc; rw [if_neg hd, if_pos hf]; exact g1, ?_, by rw [List.length_append] at g3; simp at g3; rw [List.length_cons]; omega⟩
          show (P_w_parts_b2 (U c) (.ref 0, S f, stP acc)).bind _ = _
          rw [e]
          exact g2
def Asc (l : List Nat) : Prop := ∀ c ∈ l, c < 128
theorem S_ok {l : List Nat} (h : Asc l) : PyData.strOk (S l) = true := by
  unfold PyData.strOk
  rw [Array.all_eq_true']
  intro c hc
  have := h c (by simpa [S] using hc)
  simp
  omega
theorem parts_lay {ps : List (List Nat × Nat)} (h : ∀ p ∈ ps, Asc p.1 ∧ p.2 < 128) : Lay ((eL eP2) (ps.map enP)) 2 := layL fun d hd => by
  obtain ⟨q, hq, rfl⟩ := List.mem_map.mp hd
  obtain ⟨p, hp, rfl⟩ := List.mem_map.mp hq
  refine layT fun d hd => ?_
  simp only [List.mem_cons, List.not_mem_nil, or_false] at hd
  rcases hd with rfl | rfl
  · exact layS (S_ok (h p hp).1)
  · exact layS (S_ok (l := [p.2]) fun c hc => by rw [List.mem_singleton.mp hc]; exact (h p hp).2)
theorem flat_asc {ps : List (List Nat × Nat)} (h : Asc (flat ps)) : ∀ p ∈ ps, Asc p.1 ∧ p.2 < 128 := fun p hp => by
  have hm : ∀ x ∈ p.1 ++ [p.2], x ∈ flat ps := fun x hx => List.mem_flatMap.mpr ⟨p, hp, hx⟩
  exact ⟨fun c hc => h c (hm c (List.mem_append_left _ hc)), h p.2 (hm p.2 (by simp))⟩
theorem flat_len : ∀ {ps : List (List Nat × Nat)} {p : List Nat × Nat}, p ∈ ps → p.1.length ≤ (flat ps).length
  | q :: ps, p, h => by
    rw [flat_cons, List.length_append, List.length_cons]
    rcases List.mem_cons.mp h with rfl | h
    · omega
    · have := flat_len h
      omega
theorem sc_flat : ∀ (cs f : List Nat) (acc : List (List Nat × Nat)) (z : List Nat × List (List Nat × Nat)), sc cs f acc = some z → flat z.2 ++ z.1 = flat acc ++ f ++ cs
  | [], f, acc, z, h => by cases h; rw [List.append_nil]
  | c :: cs, f, acc, z, h => by
    unfold sc at h
    split at h
    · rw [sc_flat cs _ acc z h]; simp
    · split at h
      · rw [sc_flat cs [] _ z h, flat_app, flat_one]; simp
      · cases h
theorem parts_eq {l : List Nat} (hl : l.length ≤ 5000) (ha : Asc l) : (scan l [] [] = none ∧ ∃ M, P_w_parts (S l) [] = some (.dat .none, M)) ∨ ∃ ps, scan l [] [] = some ps ∧ P_w_parts (S l) [] = some (.ref 0, stP ps) ∧ ps.length ≤ l.length := by
  have h0 : S [] = ("" : Str) := S_nil
  rw [scan_sc]
  unfold P_w_parts
  rcases parts_loop l [] [] (by simp; omega) (by simp; omega) with ⟨M, g1, g2⟩ | ⟨z, g1, g2, g3⟩
  · rw [h0] at g2
    refine .inl ⟨by rw [g1]; rfl, M, ?_⟩
    refine bE (v := [.lst []]) rfl ?_
    rw [signs_S]
    refine bE g2 ?_
    rfl
  · rw [h0] at g2
    have hfl := sc_flat l [] [] z g1
    have hfl : flat z.2 ++ z.1 = l := hfl
    have haz : Asc (flat z.2) := fun c hc => ha c (by rw [← hfl]; exact List.mem_append_left _ hc)
    by_cases hz : z.1 = [] ∧ z.2 ≠ []
    · refine .inr ⟨z.2, by rw [g1]; exact if_pos hz, ?_, by simp at g3; exact g3⟩
      refine bE (v := [.lst []]) rfl ?_
      rw [signs_S]
      refine bE g2 ?_
      show ((if decide (S z.1 = "") = true then _ else some false : Option Bool).bind _) = _
      refine bE (v := true) ?_ ?_
      · refine (if_pos (decide_eq_true (S_emp.mpr hz.1))).trans ?_
        refine bE (deep_L (n := 0) (a := eP2) (l := z.2.map enP) rfl) ?_
        refine bE (Dec.cmp (decL (decT2 decS decS)) _) ?_
        refine bE (v := true) ?_ rfl
        have hne : z.2.map enP ≠ [] := fun e => hz.2 (List.map_eq_nil_iff.mp e)
        refine (eq_eq (parts_lay (flat_asc haz)) (layL (k := 0) fun d hd => by cases hd) (by decide) (by decide)).trans ?_
        rw [decide_eq_false hne]
        rfl
      rfl
    · refine .inl ⟨by rw [g1]; exact if_neg hz, stP z.2, ?_⟩
      refine bE (v := [.lst []]) rfl ?_
      rw [signs_S]
      refine bE g2 ?_
      show ((if decide (S z.1 = "") = true then _ else some false : Option Bool).bind _) = _
      refine bE (v := false) ?_ ?_
      · by_cases h1 : z.1 = []
        · have h2 : z.2 = [] := by
            cases hq : z.2 with
            | nil => rfl
            | cons x y => exact absurd ⟨h1, by rw [hq]; exact List.cons_ne_nil _ _⟩ hz
          refine (if_pos (decide_eq_true (S_emp.mpr h1))).trans ?_
          refine bE (deep_L (n := 0) (a := eP2) (l := z.2.map enP) rfl) ?_
          refine bE (Dec.cmp (decL (decT2 decS decS)) _) ?_
          refine bE (v := false) ?_ rfl
          refine (eq_eq (parts_lay (flat_asc haz)) (layL (k := 0) fun d hd => by cases hd) (by decide) (by decide)).trans ?_
          rw [h2]
          rfl
        · exact if_neg (by rw [decide_eq_false (fun e => h1 (S_emp.mp e))]; decide)
      rfl
def rdT (v w : Int) (a b c : Nat) (l : List Nat) : Option Int := match scan l [] [] with
  | none => none
  | some ps => if ps = [([48], c)] then some 0 else rd v w a b c (-1) 0 ps
structure Lts (letters : Str) (a b c : Nat) : Prop where
  ix : pIxS letters 2 = some (U c)
  find : ∀ x, x < 128 → Txt.find letters (U x) = plc a b c x
theorem S_inj {a b : List Nat} (h : S a = S b) : a = b := congrArg tl h
section
variable {v w : Int} {a b c : Nat} {letters : Str}
theorem int_S {f : List Nat} (hne : f ≠ []) (hd : ∀ x ∈ f, isD x = true) (hh : f.head? ≠ some 48) (h9 : f.length ≤ 9) : pIntS (S f) = some (NumText.digitsVal f : Int) ∧ S f = dg (NumText.digitsVal f : Int) ∧ (NumText.digitsVal f : Int) < 10 ^ 9 := by
  obtain ⟨h1, h2⟩ := num_back _ f (Nat.le_refl _) hne hd hh
  have e : S f = dg (NumText.digitsVal f : Int) := ext_tl (by rw [tl_S, dg_tl (by omega), Int.toNat_natCast]; exact h1.symm)
  have hlt : NumText.digitsVal f < 10 ^ 9 := by
    rcases Nat.lt_or_ge (NumText.digitsVal f) (10 ^ 9) with h | h
    · exact h
    · have := numL_long 9 _ h
      rw [h1] at this
      omega
  refine ⟨?_, e, by omega⟩
  rw [e]
  unfold pIntS
  have hlen := (dg_len (q := (NumText.digitsVal f : Int)) (by omega) (by omega)).2
  rw [if_pos (by omega)]
  exact int_num (n := NumText.digitsVal f) (by rw [h1]; omega)
theorem rd_b2 (L : Lts letters a b c) (hv : 0 < v ∧ v < 1000) (hw : 0 < w ∧ w < 1000) {p : List Nat × Nat} (g : GoodP p) (h128 : p.2 < 128) (hlen : p.1.length ≤ 5000) {found last : Int} {M : List MC} (hlast : -1 ≤ last) :
    P_w_read_b2 (v, w) letters [1000000000, v / w, w] (.dat (eP2 (enP p))) (found, last, M) = some (if plc a b c p.2 ≤ last ∨ p.1.head? = some 48 ∨ 9 < p.1.length ∨ mostAt v w (plc a b c p.2) ≤ (NumText.digitsVal p.1 : Int) then .rt none else .nx (found + (NumText.digitsVal p.1 : Int) * unitAt v w (plc a b c p.2), plc a b c p.2, M)) := by
  obtain ⟨x, l, hx⟩ : ∃ x l, p.1 = x :: l := by
    cases h : p.1 with
    | nil => exact absurd h g.ne
    | cons x l => exact ⟨x, l, rfl⟩
  have hpl := plc_inv (a := a) (b := b) (c := c) (x := p.2)
  have ix0 : pIxS (S p.1) 0 = some (U x) := by
    unfold pIxS
    rw [if_pos (by rw [S_len]; omega)]
    show ((atI (S p.1).cps.toList 0).map fun c => (⟨#[c]⟩ : Str)) = _
    have : (S p.1).cps.toList = x :: l := by rw [hx]; rfl
    rw [this]
    have : pIx (x :: l) 0 = some x := ix_eq (by omega) rfl
    unfold pIx at this
    rw [this]
    rfl
  have h0 : (U x = ("0" : Str)) ↔ x = 48 := by
    have e48 : ("0" : Str) = U 48 := by decide +kernel
    rw [e48]
    constructor
    · intro h
      have := congrArg (fun z : Str => z.cps.toList) h
      simpa using this
    · intro h; rw [h]
  have hh : p.1.head? = some 48 ↔ x = 48 := by rw [hx]; simp
  unfold P_w_read_b2
  refine bE (v := enP p) rfl ?_
  refine bE (v := plc a b c p.2) (congrArg some (L.find p.2 h128)) ?_
  by_cases c1 : plc a b c p.2 ≤ last
  · rw [if_pos (show plc a b c p.2 ≤ last ∨ p.1.head? = some 48 ∨ 9 < p.1.length ∨ mostAt v w (plc a b c p.2) ≤ (NumText.digitsVal p.1 : Int) from .inl c1)]
    refine bE (v := true) (if_pos (decide_eq_true c1)) ?_
    exact if_pos rfl
  by_cases c2 : x = 48
  · rw [if_pos (show plc a b c p.2 ≤ last ∨ p.1.head? = some 48 ∨ 9 < p.1.length ∨ mostAt v w (plc a b c p.2) ≤ (NumText.digitsVal p.1 : Int) from .inr (.inl (hh.mpr c2)))]
    refine bE (v := true) ?_ (if_pos rfl)
    refine (if_neg (by rw [decide_eq_false c1]; decide)).trans ?_
    refine bE ix0 ?_
    refine bE (v := true) (if_pos (decide_eq_true (h0.mpr c2))) ?_
    rfl
  by_cases c3 : 9 < p.1.length
  · rw [if_pos (show plc a b c p.2 ≤ last ∨ p.1.head? = some 48 ∨ 9 < p.1.length ∨ mostAt v w (plc a b c p.2) ≤ (NumText.digitsVal p.1 : Int) from .inr (.inr (.inl c3)))]
    refine bE (v := true) ?_ (if_pos rfl)
    refine (if_neg (by rw [decide_eq_false c1]; decide)).trans ?_
    refine bE ix0 ?_
    refine bE (v := true) ?_ rfl
    refine (if_neg (by rw [decide_eq_false (fun e => c2 (h0.mp e))]; decide)).trans ?_
    refine bE (v := (p.1.length : Int)) (if_pos (by show p.1.length ≤ _; omega)) ?_
    refine bE (v := true) (if_pos (decide_eq_true (by omega))) rfl
  · obtain ⟨i1, i2, i3⟩ := int_S g.ne g.dg (fun e => c2 (hh.mp e)) (by omega)
    have hp3 : plc a b c p.2 = 0 ∨ plc a b c p.2 = 1 ∨ plc a b c p.2 = 2 ∨ plc a b c p.2 = -1 := by omega
    have hge : 0 ≤ plc a b c p.2 := by omega
    have hix : pIx [1000000000, v / w, w] (plc a b c p.2) = some (mostAt v w (plc a b c p.2)) := by
      rcases hp3 with e | e | e | e
      · rw [e]; rfl
      · rw [e]; rfl
      · rw [e]; rfl
      · omega
    have hux : pIx [v, w, 1] (plc a b c p.2) = some (unitAt v w (plc a b c p.2)) := by
      rcases hp3 with e | e | e | e
      · rw [e]; rfl
      · rw [e]; rfl
      · rw [e]; rfl
      · omega
    refine bE (v := decide (mostAt v w (plc a b c p.2) ≤ (NumText.digitsVal p.1 : Int))) ?_ ?_
    · refine (if_neg (by rw [decide_eq_false c1]; decide)).trans ?_
      refine bE ix0 ?_
      refine bE (v := decide (mostAt v w (plc a b c p.2) ≤ (NumText.digitsVal p.1 : Int))) ?_ rfl
      refine (if_neg (by rw [decide_eq_false (fun e => c2 (h0.mp e))]; decide)).trans ?_
      refine bE (v := (p.1.length : Int)) (if_pos (by show p.1.length ≤ _; omega)) ?_
      refine bE (v := decide (mostAt v w (plc a b c p.2) ≤ (NumText.digitsVal p.1 : Int))) ?_ rfl
      refine (if_neg (by rw [decide_eq_false (by omega)]; decide)).trans ?_
      refine bE i1 ?_
      exact bE hix rfl
    · by_cases c4 : mostAt v w (plc a b c p.2) ≤ (NumText.digitsVal p.1 : Int)
      · rw [if_pos (show plc a b c p.2 ≤ last ∨ p.1.head? = some 48 ∨ 9 < p.1.length ∨ mostAt v w (plc a b c p.2) ≤ (NumText.digitsVal p.1 : Int) from .inr (.inr (.inr c4)))]
        exact if_pos (decide_eq_true c4)
      · have hno : ¬ (plc a b c p.2 ≤ last ∨ p.1.head? = some 48 ∨ 9 < p.1.length ∨ mostAt v w (plc a b c p.2) ≤ (NumText.digitsVal p.1 : Int)) := by
          rintro (e | e | e | e)
          · exact c1 e
          · exact c2 (hh.mp e)
          · exact c3 e
          · exact c4 e
        rw [if_neg hno]
        refine (if_neg (by rw [decide_eq_false c4]; decide)).trans ?_
        refine bE i1 ?_
        refine bE hux ?_
        refine bE (mul_eq (.inl (by omega))) ?_
        rfl
theorem rd_loop (L : Lts letters a b c) (hv : 0 < v ∧ v < 1000) (hw : 0 < w ∧ w < 1000) {Gd : Int × Int × List MC → Prop} {M : List MC} (hG : ∀ f l, Gd (f, l, M)) : ∀ (ps : List (List Nat × Nat)) (found last : Int), -1 ≤ last → (∀ p ∈ ps, GoodP p ∧ p.2 < 128 ∧ p.1.length ≤ 5000) →
    (rd v w a b c last found ps = none ∧ forPP Gd (P_w_read_b2 (v, w) letters [1000000000, v / w, w]) (ps.map fun p => .dat (eP2 (enP p))) (found, last, M) = some (.rt none)) ∨ ∃ n l2, rd v w a b c last found ps = some n ∧ forPP Gd (P_w_read_b2 (v, w) letters [1000000000, v / w, w]) (ps.map fun p => .dat (eP2 (enP p))) (found, last, M) = some (.nx (n, l2, M))
  | [], found, last, _, _ => .inr ⟨found, last, rfl, by
    show forPP Gd _ [] _ = _
    unfold forPP
    rw [if_pos (hG _ _)]⟩
  | p :: ps, found, last, hl, hp => by
    obtain ⟨g1, g2, g3⟩ := hp p List.mem_cons_self
    have hpl := plc_inv (a := a) (b := b) (c := c) (x := p.2)
    have e := rd_b2 L hv hw g1 g2 g3 (found := found) (last := last) (M := M) hl
    · by_cases q : plc a b c p.2 ≤ last ∨ p.1.head? = some 48 ∨ 9 < p.1.length ∨ mostAt v w (plc a b c p.2) ≤ (NumText.digitsVal p.1 : Int)
      · rw [if_pos q] at e
        refine .inl ⟨by unfold rd; exact if_pos q, ?_⟩
        show forPP Gd _ (.dat (eP2 (enP p)) :: ps.map fun p => .dat (eP2 (enP p))) _ = _
        rw [forPP, if_pos (hG _ _), e]
        rfl
      · rw [if_neg q] at e
        have er : rd v w a b c last found (p :: ps) = rd v w a b c (plc a b c p.2) (found + (NumText.digitsVal p.1 : Int) * unitAt v w (plc a b c p.2)) ps := by
          conv => lhs; unfold rd
          exact if_neg q
        have ef : forPP Gd (P_w_read_b2 (v, w) letters [1000000000, v / w, w]) ((p :: ps).map fun p => .dat (eP2 (enP p))) (found, last, M) = forPP Gd (P_w_read_b2 (v, w) letters [1000000000, v / w, w]) (ps.map fun p => .dat (eP2 (enP p))) (found + (NumText.digitsVal p.1 : Int) * unitAt v w (plc a b c p.2), plc a b c p.2, M) := by
          show forPP Gd _ (.dat (eP2 (enP p)) :: ps.map fun p => .dat (eP2 (enP p))) _ = _
          rw [forPP, if_pos (hG _ _), e]
          rfl
        rw [er, ef]
        exact rd_loop L hv hw hG ps _ _ hpl.2.2.2.1 fun q hq => hp q (List.mem_cons_of_mem _ hq)
theorem read_eq (L : Lts letters a b c) (hc : c < 128) (hv : 0 < v ∧ v < 1000) (hw : 0 < w ∧ w < 1000) {l : List Nat} (hl : l.length ≤ 5000) (ha : Asc l) : P_w_read (S l) (v, w) letters = some (rdT v w a b c l) := by
  unfold P_w_read rdT
  rcases parts_eq hl ha with ⟨e1, M, e2⟩ | ⟨ps, e1, e2, e3⟩
  · rw [e1]
    refine bE e2 ?_
    refine bE (v := true) (if_pos rfl) ?_
    refine (if_pos rfl).trans ?_
    exact if_pos rfl
  · obtain ⟨s1, s2, s3⟩ := scan_sound l [] [] ps (fun x hx => by cases hx) (fun p hp => by cases hp) e1
    have s1 : flat ps = l := s1
    have hpa := flat_asc (ps := ps) (by rw [s1]; exact ha)
    have h48 : enP ([48], c) = (("0" : Str), U c) := by
      have : S [48] = ("0" : Str) := by decide +kernel
      show (S [48], U c) = _
      rw [this]
    have hinj : ps.map enP = [(("0" : Str), U c)] ↔ ps = [([48], c)] := by
      rw [← h48]
      constructor
      · intro h
        match ps, h with
        | [p], h =>
          have h := List.cons.inj h
          have h1 := congrArg Prod.fst h.1
          have h2 := congrArg Prod.snd h.1
          have h1 : p.1 = [48] := S_inj h1
          have h2 : [p.2] = [c] := S_inj (a := [p.2]) (b := [c]) h2
          have h2 : p.2 = c := by simpa using h2
          rw [← h1, ← h2]
        | [], h => simp at h
        | _ :: _ :: _, h => simp at h
      · intro h; rw [h]; rfl
    rw [e1]
    dsimp only
    refine bE e2 ?_
    refine bE (v := decide (ps = [([48], c)])) ?_ ?_
    · refine (if_neg (by show ¬ (false = true); decide)).trans ?_
      refine bE (deep_L (n := 0) (a := eP2) (l := ps.map enP) rfl) ?_
      refine bE (Dec.cmp (decL (decT2 decS decS)) _) ?_
      refine bE L.ix ?_
      refine bE (v := decide (ps = [([48], c)])) ?_ rfl
      have hy : Lay ((eL eP2) [(("0" : Str), U c)]) 2 := by
        have := parts_lay (ps := [([48], c)]) fun p hp => by
          rw [List.mem_singleton.mp hp]
          exact ⟨fun x hx => by rw [List.mem_singleton.mp hx]; decide, hc⟩
        rw [List.map_cons, h48] at this
        exact this
      refine (eq_eq (parts_lay hpa) hy (by decide) (by decide)).trans ?_
      rw [Bool.false_xor]
      exact congrArg some (decide_eq_decide.mpr hinj)
    by_cases hq : ps = [([48], c)]
    · rw [if_pos hq]
      refine (if_pos (decide_eq_true hq)).trans ?_
      exact if_neg (by show ¬ (false = true); decide)
    · rw [if_neg hq]
      refine (if_neg (by rw [decide_eq_false hq]; decide)).trans ?_
      refine bE (div_eq ⟨hw.1, by show w < _; omega⟩) ?_
      refine bE rfl ?_
      refine bE (v := (0, (ps.map enP).map fun x => PV.dat (eP2 x))) rfl ?_
      rw [List.map_map]
      have hgood : ∀ p ∈ ps, GoodP p ∧ p.2 < 128 ∧ p.1.length ≤ 5000 := fun p hp => by
        refine ⟨s2 p hp, (hpa p hp).2, ?_⟩
        have hs := flat_len hp
        rw [s1] at hs
        omega
      rcases rd_loop L hv hw (Gd := fun sG : (Int × Int × (List MC)) => (sG.2.2)[0]? = some (MC.lst (ps.map ((fun x => PV.dat (eP2 x)) ∘ enP)))) (M := stP ps) (fun f l => by
        show some (cL eP2 (ps.map enP)) = _
        unfold cL
        rw [List.map_map]) ps 0 (-1) (by omega) hgood with ⟨r1, r2⟩ | ⟨n, l2, r1, r2⟩
      · rw [r1]
        refine bE r2 ?_
        rfl
      · rw [r1]
        refine bE r2 ?_
        rfl
end
open TL
theorem tl_emp0 : tl ("" : Str) = [] := by decide +kernel
theorem tl_pc {q : Int} (h : 0 ≤ q) (s : Nat) : tl (pc q (U s)) = pcL q s := by
  unfold pc pcL
  split
  · exact (tl_append _ _).trans (by rw [dg_tl h])
  · exact tl_emp0
theorem tl_tx {q1 q2 q3 : Int} {a b c : Nat} (h1 : 0 ≤ q1) (h2 : 0 ≤ q2) (h3 : 0 ≤ q3) : tl (tx q1 q2 q3 a b c) = pcL q1 a ++ (pcL q2 b ++ pcL q3 c) := by
  unfold tx
  rw [tl_append, tl_append, tl_pc h1, tl_pc h2, tl_pc h3]
theorem wn_zero {v w : Int} {a b c : Nat} : tl (wn 0 v w a b c) = [48, c] := by
  have e : ∀ s, pc 0 (U s) = "" := fun s => if_neg (by omega)
  unfold wn wt tx
  rw [Int.zero_ediv, Int.zero_emod, Int.zero_ediv, Int.zero_emod, e, e, e, emp_app, emp_app, if_pos rfl, tl_append]
  have : tl ("0" : Str) = [48] := by decide +kernel
  rw [this]
  rfl
section
variable {v w : Int} {a b c : Nat}
theorem wn_tx (u : U3 v w a b c) {n : Int} (hn : 1 ≤ n ∧ n < 10 ^ 18) : tl (wn n v w a b c) = pcL (n / v) a ++ (pcL (n % v / w) b ++ pcL (n % v % w) c) := by
  obtain ⟨g1, g2, g3, g4⟩ := u.q (n := n) ⟨by omega, hn.2⟩
  have hne : ¬ tx (n / v) (n % v / w) (n % v % w) a b c = "" := by
    refine tx_ne ?_
    by_cases z1 : 1 ≤ n / v
    · exact .inl z1
    · by_cases z2 : 1 ≤ n % v / w
      · exact .inr (.inl z2)
      · have e1 : n / v = 0 := by omega
        have e2 : n % v / w = 0 := by omega
        rw [e1, e2] at g4
        omega
  have ew : wn n v w a b c = tx (n / v) (n % v / w) (n % v % w) a b c := if_neg hne
  rw [ew, tl_tx g1.1 g2.1 g3.1]
theorem rdT_iff (u : U3 v w a b c) (hvw : (v = 112 ∧ w = 14) ∨ (v = 320 ∧ w = 40)) {l : List Nat} {n : Int} : rdT v w a b c l = some n ↔ (0 ≤ n ∧ n < v * 1000000000) ∧ l = tl (wn n v w a b c) := by
  have hw1 : 1 ≤ w := by have := u.hw; omega
  have hd : 1 ≤ v / w ∧ v / w ≤ 1000 := by rcases hvw with ⟨rfl, rfl⟩ | ⟨rfl, rfl⟩ <;> decide
  constructor
  · intro h
    unfold rdT at h
    cases hs : scan l [] [] with
    | none => rw [hs] at h; cases h
    | some ps =>
      rw [hs] at h
      dsimp only at h
      obtain ⟨s1, s2, s3⟩ := scan_sound l [] [] ps (fun x hx => by cases hx) (fun p hp => by cases hp) hs
      have s1 : flat ps = l := s1
      by_cases hq : ps = [([48], c)]
      · rw [if_pos hq] at h
        have h := Option.some.inj h
        subst h
        refine ⟨⟨by omega, by have := u.hv; omega⟩, ?_⟩
        rw [wn_zero, ← s1, hq]
        rfl
      · rw [if_neg hq] at h
        obtain ⟨q1, q2, q3, h1, h2, h3, h4, h5⟩ := rd_all hw1 hd.1 s2 h
        have hpos : 1 ≤ n := by
          rcases Int.lt_or_le n 1 with hlt | hge
          · exfalso
            have : q1 = 0 ∧ q2 = 0 ∧ q3 = 0 := by
              rcases hvw with ⟨rfl, rfl⟩ | ⟨rfl, rfl⟩ <;> omega
            obtain ⟨rfl, rfl, rfl⟩ := this
            rw [pcL_zero, pcL_zero, pcL_zero] at h4
            cases ps with
            | nil => exact s3 rfl
            | cons p ps =>
              rw [flat_cons] at h4
              simp at h4
          · exact hge
        have hq : n / v = q1 ∧ n % v / w = q2 ∧ n % v % w = q3 ∧ n < v * 1000000000 := by
          rcases hvw with ⟨rfl, rfl⟩ | ⟨rfl, rfl⟩ <;> omega
        refine ⟨⟨by omega, hq.2.2.2⟩, ?_⟩
        rw [wn_tx u ⟨hpos, by have := u.hv; omega⟩, hq.1, hq.2.1, hq.2.2.1, ← s1, h4]
  · rintro ⟨⟨h0, hn⟩, rfl⟩
    by_cases hz : n = 0
    · subst hz
      rw [wn_zero]
      unfold rdT
      have hc := u.hc
      have : scan [48, c] [] [] = some [([48], c)] := by
        have := scan_flat [([48], c)] [] (fun p hp => by
          rw [List.mem_singleton.mp hp]
          exact ⟨by simp, fun x hx => by rw [List.mem_singleton.mp hx]; decide, decide_eq_false (by show ¬ (48 ≤ c ∧ c ≤ 57); omega)⟩) (by simp)
        exact this
      rw [this]
      dsimp only
      rw [if_pos rfl]
    · have hq : (0 ≤ n / v ∧ n / v < 1000000000) ∧ (0 ≤ n % v / w ∧ n % v / w < v / w) ∧ (0 ≤ n % v % w ∧ n % v % w < w) ∧ n / v * v + n % v / w * w + n % v % w = n := by
        rcases hvw with ⟨rfl, rfl⟩ | ⟨rfl, rfl⟩ <;> omega
      rw [wn_tx u ⟨by omega, by have := u.hv; omega⟩]
      obtain ⟨g1, g2, g3, g4⟩ := hq
      generalize n / v = q1 at g1 g4 ⊢
      generalize n % v / w = q2 at g2 g4 ⊢
      generalize n % v % w = q3 at g3 g4 ⊢
      have hfl : pcL q1 a ++ (pcL q2 b ++ pcL q3 c) = flat (ppL q1 a ++ (ppL q2 b ++ (ppL q3 c ++ []))) := by
        rw [flat_app, flat_app, flat_app, pp_flat, pp_flat, pp_flat]
        show _ = pcL q1 a ++ (pcL q2 b ++ (pcL q3 c ++ []))
        rw [List.append_nil]
      have hgood : ∀ p ∈ ppL q1 a ++ (ppL q2 b ++ (ppL q3 c ++ [])), GoodP p ∧ p.1 ≠ [48] := fun p hp => by
        have key : ∀ q s, 57 < s → p ∈ ppL q s → GoodP p ∧ p.1 ≠ [48] := fun q s hs hp => by
          refine ⟨pp_good hs p hp, fun e => ?_⟩
          unfold ppL at hp
          split at hp
          · rw [List.mem_singleton.mp hp] at e
            obtain ⟨x, y, e2, e3⟩ := numL_head q.toNat (by omega)
            have e : numL q.toNat = [48] := e
            rw [e2] at e
            exact e3 (List.cons.inj e).1
          · cases hp
        rcases List.mem_append.mp hp with hp | hp
        · exact key _ _ u.ha hp
        rcases List.mem_append.mp hp with hp | hp
        · exact key _ _ u.hb hp
        rcases List.mem_append.mp hp with hp | hp
        · exact key _ _ u.hc hp
        · cases hp
      have hne : ppL q1 a ++ (ppL q2 b ++ (ppL q3 c ++ [])) ≠ [] := fun e => by
        have hz : ∀ q s, ppL q s = [] → ¬ 1 ≤ q := fun q s h h1 => by
          unfold ppL at h
          rw [if_pos h1] at h
          cases h
        obtain ⟨e1, e2⟩ := List.append_eq_nil_iff.mp e
        obtain ⟨e2, e3⟩ := List.append_eq_nil_iff.mp e2
        obtain ⟨e3, _⟩ := List.append_eq_nil_iff.mp e3
        have z1 := hz _ _ e1
        have z2 := hz _ _ e2
        have z3 := hz _ _ e3
        have : q1 = 0 := by omega
        have : q2 = 0 := by omega
        have : q3 = 0 := by omega
        subst_vars
        omega
      rw [hfl]
      unfold rdT
      have hsc := scan_flat (ppL q1 a ++ (ppL q2 b ++ (ppL q3 c ++ []))) [] (fun p hp => (hgood p hp).1) hne
      rw [hsc]
      dsimp only
      rw [List.nil_append, if_neg (fun e => (hgood ([48], c) (by rw [e]; exact List.mem_singleton.mpr rfl)).2 rfl), rd_full u hd.2 g1 g2 g3, g4]
theorem plain_wp {p : List Nat} (hl : p.length ≤ 5000) : Wp (P_plain_number (S p)) fun r => ∀ x, r = some x → 0 ≤ x ∧ x < 10 ^ 9 := by
  have hnone : ∀ x : Int, (none : Option Int) = some x → 0 ≤ x ∧ x < 10 ^ 9 := fun x e => by cases e
  unfold P_plain_number
  refine wp_be (v := (p.length : Int)) (if_pos (by show p.length ≤ _; omega)) ?_
  by_cases h9 : 1 ≤ p.length ∧ p.length ≤ 9
  · rw [show (!(decide (1 ≤ (p.length : Int)) && decide ((p.length : Int) ≤ 9))) = false by rw [decide_eq_true (by omega), decide_eq_true (by omega)]; rfl]
    refine wp_be (v := !(p.all isD)) ?_ ?_
    · refine (if_neg (by decide)).trans ?_
      rw [signs_S]
      refine bE (gd_eq (by rw [List.length_map]; omega)) ?_
      have hm : ∀ p : List Nat, mapO P_plain_number_l2 (p.map U) = some (p.map isD) := fun p => by
        induction p with
        | nil => rfl
        | cons x p ih =>
          show (P_plain_number_l2 (U x)).bind _ = _
          have e : P_plain_number_l2 (U x) = some (isD x) := by
            unfold P_plain_number_l2
            exact bE (figs_in x) rfl
          rw [e, Option.bind_some]
          show (mapO P_plain_number_l2 (p.map U)).map _ = _
          rw [ih]
          rfl
      refine bE (hm p) ?_
      rw [List.all_map]
      rfl
    · cases hall : p.all isD with
      | false => exact wp_t rfl (wp_some hnone)
      | true =>
        refine wp_f rfl ?_
        have hdig := List.all_eq_true.mp hall
        obtain ⟨x, l, hx⟩ : ∃ x l, p = x :: l := by
          cases p with
          | nil => simp at h9
          | cons x l => exact ⟨x, l, rfl⟩
        have ix0 : pIxS (S p) 0 = some (U x) := by
          unfold pIxS
          rw [if_pos (by rw [S_len]; omega)]
          show ((atI (S p).cps.toList 0).map fun c => (⟨#[c]⟩ : Str)) = _
          have : (S p).cps.toList = x :: l := by rw [hx]; rfl
          rw [this]
          have : pIx (x :: l) 0 = some x := ix_eq (by omega) rfl
          unfold pIx at this
          rw [this]
          rfl
        have e48 : ("0" : Str) = S [48] := by decide +kernel
        refine wp_be ix0 ?_
        by_cases h48 : x = 48
        · by_cases hp : p = [48]
          · rw [hp]
            refine wp_be (v := false) ?_ ?_
            · subst h48
              decide +kernel
            refine wp_f rfl ?_
            refine wp_be (v := 0) (by decide +kernel) ?_
            exact wp_some fun y e => by cases e; omega
          · refine wp_be (v := true) ?_ ?_
            · refine (if_pos (decide_eq_true (by rw [h48, e48]; rfl))).trans ?_
              rw [decide_eq_false (fun e => hp (by rw [e48] at e; exact S_inj e))]
              rfl
            exact wp_t rfl (wp_some hnone)
        · refine wp_be (v := false) ?_ ?_
          · have hne : ¬ U x = ("0" : Str) := fun e => by
              rw [e48] at e
              exact h48 (List.cons.inj (S_inj (a := [x]) e)).1
            exact if_neg (by rw [decide_eq_false hne]; decide)
          refine wp_f rfl ?_
          obtain ⟨i1, i2, i3⟩ := int_S (f := p) (by rw [hx]; simp) hdig (by rw [hx]; simpa using h48) h9.2
          refine wp_be i1 ?_
          exact wp_some fun y e => by cases e; omega
  · refine wp_be (v := true) ?_ (wp_t rfl (wp_some hnone))
    refine if_pos ?_
    by_cases h1 : 1 ≤ p.length
    · rw [decide_eq_false (p := (p.length : Int) ≤ 9) (by omega), Bool.and_false]
      rfl
    · rw [decide_eq_false (p := 1 ≤ (p.length : Int)) (by omega)]
      rfl
theorem b2_wp {s : Nat} {u found : Int} (hu : 0 < u ∧ u < 1000) {l : List Nat} (hl : l.length ≤ 1000) : Wp (P_units_in_b2 (U s, u) (found, S l)) fun z => z = .rt none ∨ ∃ x l', z = .nx (found + x * u, S l') ∧ (0 ≤ x ∧ x < 10 ^ 9) ∧ l'.length ≤ l.length := by
  by_cases hm : s ∈ l
  · obtain ⟨p, q, e, hp⟩ := List.eq_append_cons_of_mem hm
    have hlen : l.length = p.length + (q.length + 1) := by rw [e, List.length_append, List.length_cons]
    have et : S l = S p ++ (U s ++ S q) := by
      rw [← S_one, S_app, S_app, e]
      rfl
    have e1 : pPartition (S l) (U s) = some (S p, U s, S q) := by
      unfold pPartition
      rw [if_pos ⟨rfl, by show l.length ≤ _; omega⟩, et, ← app_as, partition_app (y := U s) (s := s) (S := []) rfl hp]
    unfold P_units_in_b2
    refine wp_be e1 ?_
    refine wp_t (decide_eq_true rfl) ?_
    refine wp_bind (plain_wp (p := p) (by omega)) fun r hr => ?_
    cases r with
    | none => exact wp_some (.inl rfl)
    | some x =>
      have hx := hr x rfl
      simp only [Option.elim_some]
      refine wp_be (mul_eq (.inr (by omega))) ?_
      refine wp_let ?_
      exact wp_some (.inr ⟨x, q, rfl, hx, by omega⟩)
  · exact ⟨_, b_miss hm (by show l.length ≤ _; omega), .inr ⟨0, l, by rw [Int.zero_mul, Int.add_zero], by omega, Nat.le_refl _⟩⟩
theorem in_wp (u : U3 v w a b c) {l : List Nat} (hl : l.length ≤ 1000) : Wp (P_units_in (S l) [(U a, v), (U b, w), (U c, 1)]) fun r => ∀ n, r = some n → (0 ≤ n ∧ n < 10 ^ 18) ∧ S l = wn n v w a b c := by
  have hv := u.hv
  have hw := u.hw
  unfold P_units_in
  refine wp_bind (R := fun z => z = .rt none ∨ ∃ n l', z = .nx (n, S l') ∧ 0 ≤ n ∧ n < 10 ^ 18) ?_ fun z hz => ?_
  · show Wp ((P_units_in_b2 (U a, v) (0, S l)).bind _) _
    refine wp_bind (b2_wp hv hl) ?_
    rintro z (rfl | ⟨x1, l1, rfl, h1, h2⟩)
    · exact wp_some (.inl rfl)
    show Wp ((P_units_in_b2 (U b, w) (0 + x1 * v, S l1)).bind _) _
    refine wp_bind (b2_wp hw (by omega)) ?_
    rintro z (rfl | ⟨x2, l2, rfl, h3, h4⟩)
    · exact wp_some (.inl rfl)
    show Wp ((P_units_in_b2 (U c, 1) (0 + x1 * v + x2 * w, S l2)).bind _) _
    refine wp_bind (b2_wp (by omega) (by omega)) ?_
    rintro z (rfl | ⟨x3, l3, rfl, h5, h6⟩)
    · exact wp_some (.inl rfl)
    have m1 : 0 ≤ x1 * v := Int.mul_nonneg h1.1 (by omega)
    have m2 : 0 ≤ x2 * w := Int.mul_nonneg h3.1 (by omega)
    have m3 : x1 * v ≤ 1000000000 * 1000 := Int.mul_le_mul (by omega) (by omega) (by omega) (by omega)
    have m4 : x2 * w ≤ 1000000000 * 1000 := Int.mul_le_mul (by omega) (by omega) (by omega) (by omega)
    refine wp_some (.inr ⟨_, l3, rfl, ?_, ?_⟩) <;> omega
  · rcases hz with rfl | ⟨n, l', rfl, h1, h2⟩
    · exact wp_some fun n e => by cases e
    · show Wp ((if decide (S l' = "") = true then _ else some false : Option Bool).bind _) _
      by_cases h0 : S l' = ""
      · refine wp_be (v := decide (wn n v w a b c = S l)) ?_ ?_
        · refine (if_pos (decide_eq_true h0)).trans ?_
          exact bE (units_text u ⟨h1, h2⟩) rfl
        by_cases he : wn n v w a b c = S l
        · refine wp_t (decide_eq_true he) (wp_some fun m e => ?_)
          cases e
          exact ⟨⟨h1, h2⟩, he.symm⟩
        · exact wp_f (decide_eq_false he) (wp_some fun m e => by cases e)
      · refine wp_be (v := false) (if_neg (by rw [decide_eq_false h0]; decide)) ?_
        exact wp_f rfl (wp_some fun m e => by cases e)
theorem in_rdT (u : U3 v w a b c) (hvw : (v = 112 ∧ w = 14) ∨ (v = 320 ∧ w = 40)) (h0 : P_units_in (wn 0 v w a b c) [(U a, v), (U b, w), (U c, 1)] = some (some 0)) {l : List Nat} (hl : l.length ≤ 1000) : P_units_in (S l) [(U a, v), (U b, w), (U c, 1)] = some (rdT v w a b c l) := by
  obtain ⟨r, e, hr⟩ := in_wp u hl
  have hv := u.hv
  rw [e]
  congr 1
  have key : ∀ n, r = some n ↔ rdT v w a b c l = some n := fun n => by
    rw [rdT_iff u hvw]
    constructor
    · intro h
      obtain ⟨h1, h2⟩ := hr n h
      have et : l = tl (wn n v w a b c) := by rw [← h2]; rfl
      by_cases hz : n = 0
      · exact ⟨by omega, et⟩
      · have := units_in u (n := n) ⟨by omega, h1.2⟩
        rw [← h2, e, h] at this
        have := Option.some.inj this
        split at this
        · next q => exact ⟨⟨h1.1, by rcases hvw with ⟨rfl, rfl⟩ | ⟨rfl, rfl⟩ <;> omega⟩, et⟩
        · cases this
    · rintro ⟨h1, h2⟩
      have et : S l = wn n v w a b c := by rw [h2, S_tl]
      rw [et] at e
      by_cases hz : n = 0
      · subst hz
        rw [h0] at e
        exact (Option.some.inj e).symm
      · have := units_in u (n := n) ⟨by omega, by rcases hvw with ⟨rfl, rfl⟩ | ⟨rfl, rfl⟩ <;> omega⟩
        rw [this, if_pos (by rcases hvw with ⟨rfl, rfl⟩ | ⟨rfl, rfl⟩ <;> omega)] at e
        exact (Option.some.inj e).symm
  cases hR : r with
  | none =>
    cases hT : rdT v w a b c l with
    | none => rfl
    | some n => rw [(key n).mpr hT] at hR; cases hR
  | some n => exact ((key n).mp hR).symm
end
open TL
instance (l : List Nat) : Decidable (Asc l) := inferInstanceAs (Decidable (∀ c ∈ l, c < 128))
structure TOk (x : Str) (n : Nat) : Prop where
  asc : Asc (tl x)
  len : x.length ≤ n
theorem TOk.mono {x : Str} {n m : Nat} (h : TOk x n) (e : n ≤ m) : TOk x m := ⟨h.asc, Nat.le_trans h.len e⟩
theorem TOk.app {x y : Str} {n m : Nat} (h : TOk x n) (k : TOk y m) : TOk (x ++ y) (n + m) := ⟨fun c hc => by
    rw [tl_append] at hc
    rcases List.mem_append.mp hc with hc | hc
    · exact h.asc c hc
    · exact k.asc c hc, by
    rw [app_len]
    have := h.len
    have := k.len
    omega⟩
theorem TOk.cat {x y : Str} {n m : Nat} (h : TOk x n) (k : TOk y m) (hn : n + m ≤ 100000) : pCatS x y = some (x ++ y) := catS_eq (by
    have := h.len
    have := k.len
    omega)
theorem TOk.one {c : Nat} (h : c < 128) : TOk (U c) 1 := ⟨fun x hx => by rw [List.mem_singleton.mp (show x ∈ [c] from hx)]; exact h, Nat.le_refl _⟩
theorem TOk.emp : TOk "" 0 := ⟨(fun c hc => by rw [tl_emp0] at hc; cases hc), by rw [emp_len]; omega⟩
theorem TOk.dg {q : Int} (h0 : 0 ≤ q) (h1 : q < 10 ^ 18) : TOk (dg q) 18 := ⟨fun c hc => by
    rw [dg_tl h0] at hc
    have := of_decide_eq_true (digs_isD _ hc)
    omega, (dg_len h0 h1).2⟩
theorem cut_tl (x : Str) (lo hi : Option Int) : ∀ c ∈ tl (cutS x lo hi), c ∈ tl x := fun c hc => by
  have hc : c ∈ List.take _ (List.drop _ x.cps.toList) := hc
  exact List.mem_of_mem_drop (List.mem_of_mem_take hc)
theorem TOk.sl {x : Str} {n : Nat} (h : TOk x n) (hn : n ≤ 100000) (lo hi : Option Int) : ∃ y, pSlS x lo hi = some y ∧ TOk y n := by
  refine ⟨cutS x lo hi, if_pos (Nat.le_trans h.len hn), fun c hc => h.asc c (cut_tl x lo hi c hc), Nat.le_trans (cutS_length x lo hi) h.len⟩
theorem TOk.ix {x : Str} {n : Nat} {i : Int} (h : TOk x n) (hn : n ≤ 100000) (h0 : 0 ≤ i) (h1 : i < x.length) : ∃ c, c < 128 ∧ pIxS x i = some (U c) := by
  have hl : (tl x).length = x.length := rfl
  obtain ⟨c, hc⟩ : ∃ c, (tl x)[i.toNat]? = some c := ⟨_, List.getElem?_eq_getElem (show i.toNat < (tl x).length by omega)⟩
  refine ⟨c, h.asc c (List.mem_of_getElem? hc), ?_⟩
  unfold pIxS
  rw [if_pos (Nat.le_trans h.len hn)]
  have := ix_eq (l := tl x) h0 hc
  unfold pIx at this
  show ((atI (tl x) i).map _) = _
  rw [this]
  rfl
theorem word_b {v w : Int} {c : Nat} {j : Int} {b : List Int} {k : Int} {s : Str} {m : Nat} (hvw : (v = 112 ∧ w = 14) ∨ (v = 320 ∧ w = 40)) (hj : j = 0 ∨ j = 1 ∨ j = 2) (hc : c < 128) (h : Bok b k) (hk : k + 100 < 2147483648) (hs : TOk s m) (hm : m ≤ 1000) : Wp (P_w_word_b2 (v, w) (j, U c) (b, s)) fun r => Bok r.1 (k + 6) ∧ TOk r.2 (m + 19) := by
  unfold P_w_word_b2
  refine wp_bind (take_wp h (by omega) (by omega)) fun r2 h2 => ?_
  obtain ⟨t3, e3, p3⟩ : ∃ t : Int, pIx [40, 1000000000, 10000000000] r2.1 = some t ∧ 0 < t ∧ t ≤ 10000000000 := by
    rcases (show r2.1 = 0 ∨ r2.1 = 1 ∨ r2.1 = 2 by omega) with e | e | e <;> rw [e]
    · exact ⟨40, rfl, by omega, by omega⟩
    · exact ⟨1000000000, rfl, by omega, by omega⟩
    · exact ⟨10000000000, rfl, by omega, by omega⟩
  refine wp_be e3 ?_
  refine wp_be (div_eq (by rcases hvw with ⟨rfl, rfl⟩ | ⟨rfl, rfl⟩ <;> decide)) ?_
  obtain ⟨t5, e5, p5⟩ : ∃ t : Int, pIx [t3, v / w, w] j = some t ∧ 0 < t ∧ t ≤ 10000000000 := by
    rcases hj with e | e | e <;> rw [e]
    · exact ⟨t3, rfl, p3⟩
    · exact ⟨v / w, rfl, by rcases hvw with ⟨rfl, rfl⟩ | ⟨rfl, rfl⟩ <;> decide⟩
    · exact ⟨w, rfl, by rcases hvw with ⟨rfl, rfl⟩ | ⟨rfl, rfl⟩ <;> decide⟩
  refine wp_be e5 ?_
  refine wp_bind (wide_wp h2.2 (by omega) p5.1) fun r6 h6 => ?_
  refine wp_bind (take_wp h6.2 (by omega) (by omega)) fun r7 h7 => ?_
  have hb : Bok r7.2 (k + 6) := by
    have := h7.2
    rwa [show k + 1 + 4 + 1 = k + 6 by omega] at this
  refine wp_bind (R := fun _ => True) ?_ fun z8 _ => ?_
  · exact wp_ifd (fun _ => wp_some trivial) fun _ => wp_some trivial
  refine wp_bind (R := fun z => TOk z (m + 19)) ?_ fun z9 h9 => wp_some ⟨hb, h9⟩
  refine wp_if (fun _ => ?_) fun _ => wp_some (hs.mono (by omega))
  refine wp_be (str_dg h6.1.1 (by omega)) ?_
  have d := TOk.dg h6.1.1 (show r6.1 < 10 ^ 18 by omega)
  refine wp_be (hs.cat d (by omega)) ?_
  refine wp_be ((hs.app d).cat (TOk.one hc) (by omega)) ?_
  exact wp_some (((hs.app d).app (TOk.one hc)).mono (by omega))
theorem word_wp {v w : Int} {a b c : Nat} {letters : Str} {bx : List Int} {k : Int} (hvw : (v = 112 ∧ w = 14) ∨ (v = 320 ∧ w = 40)) (hl : signs letters = [U a, U b, U c]) (ha : a < 128) (hb : b < 128) (hc : c < 128) (h : Bok bx k) (hk : k + 200 < 2147483648) : Wp (P_w_word bx (v, w) letters) fun r => TOk r.1 57 ∧ Bok r.2 (k + 18) := by
  unfold P_w_word
  refine wp_let ?_
  rw [hl]
  refine wp_bind (R := fun s => Bok s.1 (k + 18) ∧ TOk s.2 57) ?_ fun s hs => wp_some ⟨hs.2, hs.1⟩
  show Wp ((P_w_word_b2 (v, w) (0, U a) (bx, "")).bind _) _
  refine wp_bind (word_b hvw (.inl rfl) ha h (by omega) TOk.emp (by omega)) fun s1 h1 => ?_
  show Wp ((P_w_word_b2 (v, w) (1, U b) s1).bind _) _
  refine wp_bind (word_b (s := s1.2) (b := s1.1) hvw (.inr (.inl rfl)) hb h1.1 (by omega) h1.2 (by omega)) fun s2 h2 => ?_
  show Wp ((P_w_word_b2 (v, w) (2, U c) s2).bind _) _
  refine wp_bind (word_b (s := s2.2) (b := s2.1) hvw (.inr (.inr rfl)) hc h2.1 (by omega) h2.2 (by omega)) fun s3 h3 => ?_
  refine wp_some ⟨?_, h3.2⟩
  have := h3.1
  rwa [show k + 6 + 6 + 6 = k + 18 by omega] at this
theorem join_ok : ∀ l : List Str, (∀ x ∈ l, Asc (tl x)) → Asc (tl (Str.join "" l)) ∧ (Str.join "" l).length = (l.map (·.length)).sum
  | [], _ => ⟨(fun c hc => by cases hc), rfl⟩
  | [x], h => ⟨h x List.mem_cons_self, by
    show x.length = x.length + 0
    omega⟩
  | x :: y :: l, h => by
    obtain ⟨h1, h2⟩ := join_ok (y :: l) fun z hz => h z (List.mem_cons_of_mem _ hz)
    have e : Str.join "" (x :: y :: l) = x ++ "" ++ Str.join "" (y :: l) := rfl
    rw [e, app_emp]
    refine ⟨fun c hc => ?_, ?_⟩
    · rw [tl_append] at hc
      rcases List.mem_append.mp hc with hc | hc
      · exact h x List.mem_cons_self c hc
      · exact h1 c hc
    · rw [app_len, h2]
      rfl
def Sz (L : List (Str × Str)) : Nat := (L.map fun p => p.1.length + p.2.length).sum
theorem Sz_cons (p : Str × Str) (L : List (Str × Str)) : Sz (p :: L) = p.1.length + p.2.length + Sz L := rfl
theorem Sz_set : ∀ (L : List (Str × Str)) (i : Nat) (p : Str × Str), Sz (L.set i p) ≤ Sz L + (p.1.length + p.2.length)
  | [], i, p => by simp [Sz]
  | q :: L, 0, p => by
    rw [List.set_cons_zero, Sz_cons, Sz_cons]
    omega
  | q :: L, i + 1, p => by
    rw [List.set_cons_succ, Sz_cons, Sz_cons]
    have := Sz_set L i p
    omega
structure LP (L : List (Str × Str)) (B T : Nat) : Prop where
  one : ∀ p ∈ L, Asc (tl p.1) ∧ Asc (tl p.2) ∧ p.1.length + p.2.length ≤ B
  all : Sz L ≤ T
theorem LP.set {L : List (Str × Str)} {B T : Nat} (h : LP L B T) (i : Nat) {p : Str × Str} (hp : Asc (tl p.1) ∧ Asc (tl p.2) ∧ p.1.length + p.2.length ≤ B) : LP (L.set i p) B (T + B) := ⟨fun q hq => by
    rcases List.mem_or_eq_of_mem_set hq with hq | rfl
    · exact h.one q hq
    · exact hp, by
    have := Sz_set L i p
    have := h.all
    omega⟩
theorem Sz_flat : ∀ ps : List (List Nat × Nat), Sz (ps.map enP) = (flat ps).length
  | [] => rfl
  | p :: ps => by
    rw [List.map_cons, Sz_cons, flat_cons, List.length_append, List.length_cons, Sz_flat ps]
    show p.1.length + 1 + _ = _
    omega
theorem ixL_of {α : Type} {e : α → PyData} {l : List α} {i : Int} {x : α} (h0 : 0 ≤ i) (h : l[i.toNat]? = some x) : PV.ix [cL e l] (.ref 0) i = some (.dat (e x)) := by
  have := ix_eq (l := (l.map fun z => PV.dat (e z))) h0 (z := .dat (e x)) (by rw [List.getElem?_map, h]; rfl)
  unfold pIx at this
  exact this
theorem setL_of {α : Type} {e : α → PyData} {l : List α} {i : Int} {x : α} (h0 : 0 ≤ i) (h1 : i < l.length) : setLP [cL e l] (.ref 0) i (.dat (e x)) = some [cL e (l.set i.toNat x)] := by
  have h2 : setLP [cL e l] (.ref 0) i (.dat (e x)) = (ixN (l.map fun z => PV.dat (e z)).length i).map fun j => [MC.lst ((l.map fun z => PV.dat (e z)).set j (.dat (e x)))] := rfl
  have h3 : ixN (l.map fun z => PV.dat (e z)).length i = some i.toNat := by
    unfold ixN
    rw [if_pos h0, if_pos (by rw [List.length_map]; exact h1)]
  rw [h2, h3]
  show some [MC.lst _] = _
  unfold cL
  rw [List.map_set]
def sgn : Str := " !\"#$&'()*+,-./0123456789:;<=>?@ABCDEFGHIJKLMNOPQRSTUVWXYZ[\\]^_`abcdefghijklmnopqrstuvwxyz{|}~"
theorem sgn_ok : TOk sgn 100 := ⟨by decide +kernel, by decide +kernel⟩
theorem sgn_pos : 1 ≤ sgn.length := by decide +kernel
theorem let_ok : TOk "0123456789cspmfr " 17 := ⟨by decide +kernel, by decide +kernel⟩
theorem let_len : ("0123456789cspmfr " : Str).length = 17 := by decide +kernel
theorem six_ok : TOk "cspmfr" 6 := ⟨by decide +kernel, by decide +kernel⟩
theorem six_len : ("cspmfr" : Str).length = 6 := by decide +kernel
theorem spoilt_wp {x : Str} {m : Nat} {bx : List Int} {k : Int} (hx : TOk x m) (hm : m ≤ 500) (h : Bok bx k) (hk : k + 100 < 2147483648) : Wp (P_w_spoilt bx x) fun r => TOk r.1 (6 * m + 60) ∧ Bok r.2 (k + 8) := by
  have hlx := hx.len
  have hsl := sgn_ok.len
  have hsp := sgn_pos
  unfold P_w_spoilt
  refine wp_be (v := sgn) rfl ?_
  refine wp_bind (take_wp h (by omega) (by omega)) fun r2 h2 => ?_
  refine wp_be (v := (x.length : Int)) (if_pos (by omega)) ?_
  refine wp_bind (take_wp h2.2 (by omega) (by omega)) fun r4 h4 => ?_
  refine wp_be (v := (sgn.length : Int)) (if_pos (by omega)) ?_
  refine wp_bind (take_wp h4.2 (by omega) (by omega)) fun r6 h6 => ?_
  obtain ⟨c7, p7, e7⟩ := sgn_ok.ix (by omega) h6.1.1 h6.1.2
  refine wp_be e7 ?_
  refine wp_bind (take_wp h6.2 (by omega) (by omega)) fun r8 h8 => ?_
  obtain ⟨c9, p9, e9⟩ := let_ok.ix (by omega) h8.1.1 (by rw [let_len]; omega)
  refine wp_be e9 ?_
  refine wp_bind (take_wp h8.2 (by omega) (by omega)) fun r10 h10 => ?_
  obtain ⟨c, hc, e11⟩ : ∃ c, c < 128 ∧ pIx [U c7, U c9] r10.1 = some (U c) := by
    rcases (show r10.1 = 0 ∨ r10.1 = 1 by omega) with e | e <;> rw [e]
    · exact ⟨c7, p7, rfl⟩
    · exact ⟨c9, p9, rfl⟩
  refine wp_be e11 ?_
  have hb10 : Bok r10.2 (k + 5) := by
    have := h10.2
    rwa [show k + 1 + 1 + 1 + 1 + 1 = k + 5 by omega] at this
  refine wp_ifd (fun hw => ?_) (fun hw => ?_)
  · obtain ⟨y1, f1, k1⟩ := hx.sl (by omega) none (some r4.1)
    obtain ⟨y2, f2, k2⟩ := hx.sl (by omega) (some r4.1) none
    obtain ⟨y3, f3, k3⟩ := hx.sl (by omega) (some (r4.1 + 1)) none
    obtain ⟨y4, f4, k4⟩ := hx.sl (by omega) (some (maxI 0 (r4.1 - 1))) none
    have hu := TOk.one hc
    refine wp_be f1 ?_
    refine wp_be (k1.cat hu (by omega)) ?_
    refine wp_be f2 ?_
    refine wp_be ((k1.app hu).cat k2 (by omega)) ?_
    refine wp_be f1 ?_
    refine wp_be f3 ?_
    refine wp_be (k1.cat k3 (by omega)) ?_
    refine wp_be f1 ?_
    refine wp_be (k1.cat hu (by omega)) ?_
    refine wp_be f3 ?_
    refine wp_be ((k1.app hu).cat k3 (by omega)) ?_
    refine wp_let ?_
    refine wp_be f1 ?_
    refine wp_be f4 ?_
    refine wp_be (k1.cat k4 (by omega)) ?_
    refine wp_be (v := [y1 ++ U c ++ y2, y1 ++ y3, y1 ++ U c ++ y3, y1 ++ y4]) rfl ?_
    have hb8 : Bok r10.2 (k + 8) := hb10.mono (by omega)
    rcases (show r2.1 = 0 ∨ r2.1 = 1 ∨ r2.1 = 2 ∨ r2.1 = 3 by omega) with e | e | e | e <;> rw [e]
    · exact wp_be rfl (wp_some ⟨((k1.app hu).app k2).mono (by omega), hb8⟩)
    · exact wp_be rfl (wp_some ⟨(k1.app k3).mono (by omega), hb8⟩)
    · exact wp_be rfl (wp_some ⟨((k1.app hu).app k3).mono (by omega), hb8⟩)
    · exact wp_be rfl (wp_some ⟨(k1.app k4).mono (by omega), hb8⟩)
  · have ex : x = S (tl x) := (S_tl x).symm
    have hlt : (tl x).length = x.length := rfl
    rcases parts_eq (l := tl x) (by omega) hx.asc with ⟨_, M, e2⟩ | ⟨ps, e1, e2, e3⟩
    · rw [S_tl] at e2
      refine wp_be e2 ?_
      refine wp_t rfl ?_
      refine wp_be (hx.cat (TOk.one hc) (by omega)) ?_
      exact wp_some ⟨(hx.app (TOk.one hc)).mono (by omega), hb10.mono (by omega)⟩
    · rw [S_tl] at e2
      obtain ⟨s1, s2, s3⟩ := scan_sound (tl x) [] [] ps (fun z hz => by cases hz) (fun p hp => by cases hp) e1
      have s1 : flat ps = tl x := s1
      have hpa := flat_asc (ps := ps) (by rw [s1]; exact hx.asc)
      have hLP : LP (ps.map enP) (m + 12) m := by
        refine ⟨fun q hq => ?_, by rw [Sz_flat, s1]; omega⟩
        obtain ⟨p, hp, rfl⟩ := List.mem_map.mp hq
        have := flat_len hp
        rw [s1] at this
        refine ⟨(hpa p hp).1, (TOk.one (hpa p hp).2).asc, ?_⟩
        show p.1.length + 1 ≤ _
        omega
      refine wp_be e2 ?_
      refine wp_f rfl ?_
      refine wp_be (deep_L (n := 0) (a := eP2) (l := ps.map enP) rfl) ?_
      refine wp_be (Dec.cmp (decL (decT2 decS decS)) _) ?_
      have hln : (ps.map enP).length = ps.length := List.length_map ..
      have hps : 1 ≤ ps.length := by
        cases ps with
        | nil => exact absurd rfl s3
        | cons p ps => rw [List.length_cons]; omega
      generalize hL : ps.map enP = L at hLP hln ⊢
      refine wp_bind (take_wp hb10 (by omega) (by omega)) fun r37 h37 => ?_
      obtain ⟨pa, hpa2⟩ : ∃ pa, L[r37.1.toNat]? = some pa := ⟨_, List.getElem?_eq_getElem (show r37.1.toNat < L.length by omega)⟩
      have hm3 := hLP.one pa (List.mem_of_getElem? hpa2)
      have hst : stP ps = [cL eP2 L] := by rw [← hL]
      dsimp only
      rw [hst]
      refine wp_be (ixL_of h37.1.1 hpa2) ?_
      refine wp_be (v := eP2 pa) rfl ?_
      refine wp_be (Dec.cmp (decT2 decS decS) _) ?_
      have h0 : TOk "0" 1 := ⟨by decide +kernel, by decide +kernel⟩
      have k40 : TOk pa.1 m := ⟨hm3.1, by
        obtain ⟨p, hp, e⟩ := List.mem_map.mp (by rw [hL]; exact List.mem_of_getElem? hpa2)
        have := flat_len hp
        rw [s1] at this
        rw [← e]
        show p.1.length ≤ m
        omega⟩
      have k41 : pa.2.length = 1 := by
        obtain ⟨p, hp, e⟩ := List.mem_map.mp (by rw [hL]; exact List.mem_of_getElem? hpa2)
        rw [← e]
        rfl
      refine wp_be (h0.cat k40 (by omega)) ?_
      refine wp_let ?_
      refine wp_bind (R := fun z => (Asc (tl z.1.1) ∧ Asc (tl z.1.2) ∧ z.1.1.length + z.1.2.length ≤ m + 12) ∧ Bok z.2 (k + 8)) ?_ fun z47 h47 => ?_
      · refine wp_ifd (fun _ => ?_) fun _ => ?_
        · refine wp_bind (take_wp h37.2 (by omega) (by omega)) fun r43 h43 => ?_
          obtain ⟨t, e44, h44⟩ : ∃ t, pIx [("0" : Str), "0" ++ pa.1, "8", "14", "40", "999999999", "1000000000"] r43.1 = some t ∧ TOk t (m + 10) := by
            rcases (show r43.1 = 0 ∨ r43.1 = 1 ∨ r43.1 = 2 ∨ r43.1 = 3 ∨ r43.1 = 4 ∨ r43.1 = 5 ∨ r43.1 = 6 by omega) with e | e | e | e | e | e | e <;> rw [e]
            · exact ⟨_, rfl, h0.mono (by omega)⟩
            · exact ⟨_, rfl, (h0.app k40).mono (by omega)⟩
            · exact ⟨_, rfl, (TOk.mono (n := 1) ⟨by decide +kernel, by decide +kernel⟩ (by omega))⟩
            · exact ⟨_, rfl, (TOk.mono (n := 2) ⟨by decide +kernel, by decide +kernel⟩ (by omega))⟩
            · exact ⟨_, rfl, (TOk.mono (n := 2) ⟨by decide +kernel, by decide +kernel⟩ (by omega))⟩
            · exact ⟨_, rfl, (TOk.mono (n := 9) ⟨by decide +kernel, by decide +kernel⟩ (by omega))⟩
            · exact ⟨_, rfl, (TOk.mono (n := 10) ⟨by decide +kernel, by decide +kernel⟩ (by omega))⟩
          refine wp_be e44 ?_
          refine wp_some ⟨⟨h44.asc, hm3.2.1, ?_⟩, h43.2.mono (by omega)⟩
          have := h44.len
          show t.length + pa.2.length ≤ _
          omega
        · refine wp_bind (take_wp h37.2 (by omega) (by omega)) fun r45 h45 => ?_
          obtain ⟨c46, p46, e46⟩ := six_ok.ix (by omega) h45.1.1 (by rw [six_len]; omega)
          refine wp_be e46 ?_
          refine wp_some ⟨⟨hm3.1, (TOk.one p46).asc, ?_⟩, h45.2.mono (by omega)⟩
          have := k40.len
          show pa.1.length + 1 ≤ _
          omega
      refine wp_be (v := [cL eP2 (L.set r37.1.toNat z47.1)]) ?_ ?_
      · show ((some r37.1).bind fun i => _) = _
        rw [Option.bind_some]
        exact setL_of h37.1.1 h37.1.2
      have hL1 := hLP.set r37.1.toNat h47.1
      have hn1 : (L.set r37.1.toNat z47.1).length = L.length := List.length_set ..
      generalize L.set r37.1.toNat z47.1 = L1 at hL1 hn1 ⊢
      refine wp_bind (R := fun z => z.1 = PV.ref 0 ∧ ∃ L2, z.2 = [cL eP2 L2] ∧ L2.length = L.length ∧ LP L2 (m + 12) (m + (m + 12) + (m + 12) + (m + 12))) ?_ fun z49 h49 => ?_
      · refine wp_ifd (fun _ => ?_) fun _ => wp_some ⟨rfl, L1, rfl, hn1, hL1.one, by have := hL1.all; omega⟩
        obtain ⟨q1, g1⟩ : ∃ q, L1[(0 : Int).toNat]? = some q := ⟨_, List.getElem?_eq_getElem (show (0 : Int).toNat < L1.length by show 0 < _; omega)⟩
        obtain ⟨q2, g2⟩ : ∃ q, L1[r37.1.toNat]? = some q := ⟨_, List.getElem?_eq_getElem (show r37.1.toNat < L1.length by omega)⟩
        refine wp_be (ixL_of (by omega) g1) ?_
        refine wp_be (ixL_of h37.1.1 g2) ?_
        refine wp_be (setL_of h37.1.1 (by rw [hn1]; exact h37.1.2)) ?_
        refine wp_be (setL_of (i := 0) (by omega) (by rw [List.length_set, hn1]; omega)) ?_
        exact wp_some ⟨rfl, (L1.set r37.1.toNat q1).set (0 : Int).toNat q2, rfl, by rw [List.length_set, List.length_set, hn1], (hL1.set r37.1.toNat (hL1.one q1 (List.mem_of_getElem? g1))).set (0 : Int).toNat (hL1.one q2 (List.mem_of_getElem? g2))⟩
      obtain ⟨z49a, z49b⟩ := z49
      obtain ⟨rfl, L2, rfl, hn2, hL2⟩ := h49
      refine wp_be (deep_L (n := 0) (a := eP2) (l := L2) rfl) ?_
      refine wp_be (Dec.cmp (decL (decT2 decS decS)) _) ?_
      refine wp_be (gd_eq (by omega)) ?_
      refine wp_be (mapO_all (g := fun p : Str × Str => p.1 ++ p.2) fun p hp => ?_) ?_
      · have := (hL2.one p hp).2.2
        unfold P_w_spoilt_l2
        exact bE (catS_eq (by omega)) rfl
      have hsum : ((L2.map fun p : Str × Str => p.1 ++ p.2).map (·.length)).sum = Sz L2 := by
        rw [List.map_map]
        unfold Sz
        congr 1
        refine List.map_congr_left fun p _ => ?_
        exact app_len _ _
      have hall := hL2.all
      obtain ⟨j1, j2⟩ := join_ok (L2.map fun p : Str × Str => p.1 ++ p.2) fun z hz => by
        obtain ⟨p, hp, rfl⟩ := List.mem_map.mp hz
        intro c hc
        rw [tl_append] at hc
        rcases List.mem_append.mp hc with hc | hc
        · exact (hL2.one p hp).1 c hc
        · exact (hL2.one p hp).2.1 c hc
      refine wp_be (v := Str.join "" (L2.map fun p : Str × Str => p.1 ++ p.2)) ?_ ?_
      · unfold pJoin
        rw [if_pos (by rw [hsum, emp_len, Nat.mul_zero]; omega)]; exact congrArg some (PySem.StrLaws.glued_eq_join _ _)
      refine wp_some ⟨⟨j1, ?_⟩, h47.2⟩
      show (Str.join "" _).length ≤ _
      rw [j2, hsum]
      omega
open TL
theorem lts_w : Lts "csp" 99 115 112 := ⟨by decide +kernel, fun x hx => by
  have : ∀ x ∈ List.range 128, Txt.find "csp" (U x) = plc 99 115 112 x := by decide +kernel
  exact this x (List.mem_range.mpr hx)⟩
theorem lts_l : Lts "mfr" 109 102 114 := ⟨by decide +kernel, fun x hx => by
  have : ∀ x ∈ List.range 128, Txt.find "mfr" (U x) = plc 109 102 114 x := by decide +kernel
  exact this x (List.mem_range.mpr hx)⟩
theorem bind_some_id {α : Type} (x : Option α) : (x.bind fun r => some r) = x := by cases x <;> rfl
theorem w_in0 : P_units_in (wn 0 112 14 99 115 112) [(U 99, 112), (U 115, 14), (U 112, 1)] = some (some 0) := by
  have h := weight_0
  unfold P_weight_in at h
  rw [vw_eq, ← ww_0, bind_some_id] at h
  exact h
theorem l_in0 : P_units_in (wn 0 320 40 109 102 114) [(U 109, 320), (U 102, 40), (U 114, 1)] = some (some 0) := by
  have h := length_0
  unfold P_length_in at h
  rw [vl_eq, ← wl_0, bind_some_id] at h
  exact h
theorem weight_rd {x : Str} {n : Nat} (h : TOk x n) (hn : n ≤ 1000) : P_weight_in x = some (rdT 112 14 99 115 112 (tl x)) := by
  have := in_rdT uw (.inl ⟨rfl, rfl⟩) w_in0 (l := tl x) (Nat.le_trans h.len hn)
  rw [S_tl] at this
  unfold P_weight_in
  rw [vw_eq, bind_some_id]
  exact this
theorem length_rd {x : Str} {n : Nat} (h : TOk x n) (hn : n ≤ 1000) : P_length_in x = some (rdT 320 40 109 102 114 (tl x)) := by
  have := in_rdT ul (.inr ⟨rfl, rfl⟩) l_in0 (l := tl x) (Nat.le_trans h.len hn)
  rw [S_tl] at this
  unfold P_length_in
  rw [vl_eq, bind_some_id]
  exact this
theorem read_w {x : Str} {n : Nat} (h : TOk x n) (hn : n ≤ 1000) : P_w_read x (112, 14) "csp" = some (rdT 112 14 99 115 112 (tl x)) := by
  have hl : (tl x).length ≤ 1000 := Nat.le_trans h.len hn
  have := read_eq (v := 112) (w := 14) lts_w (by omega) (by omega) (by omega) (l := tl x) (by omega) h.asc
  rw [S_tl] at this
  exact this
theorem read_l {x : Str} {n : Nat} (h : TOk x n) (hn : n ≤ 1000) : P_w_read x (320, 40) "mfr" = some (rdT 320 40 109 102 114 (tl x)) := by
  have hl : (tl x).length ≤ 1000 := Nat.le_trans h.len hn
  have := read_eq (v := 320) (w := 40) lts_l (by omega) (by omega) (by omega) (l := tl x) (by omega) h.asc
  rw [S_tl] at this
  exact this
theorem same_oi (l : List (Option Int)) (hl : l.length ≤ 100000) : P_w_same 9 ((eL (eO eI)) l) ((eL (eO eI)) l) = some true :=
  same_some (.lst (k := 0) (by rw [List.length_map]; exact hl) fun d hd => by
    obtain ⟨i, _, rfl⟩ := List.mem_map.mp hd
    cases i with
    | none => exact .non
    | some i => exact .int i) 9 (by omega)
theorem b6_ok {x : Str} {n : Nat} (h : TOk x n) (hn : n ≤ 1000) : P_law_b6 x () = some (.nx ()) := by
  unfold P_law_b6
  refine bE (read_w h hn) ?_
  refine bE (read_l h hn) ?_
  refine bE rfl ?_
  refine bE (weight_rd h hn) ?_
  refine bE (length_rd h hn) ?_
  refine bE (same_oi _ (by show 2 ≤ _; omega)) ?_
  exact if_neg (by decide)
def AllT (l : List Str) : Prop := ∀ x ∈ l, TOk x 60
theorem AllT.snoc {l : List Str} (h : AllT l) {x : Str} (hx : TOk x 60) : AllT (l ++ [x]) := fun y hy => by
  rcases List.mem_append.mp hy with hy | hy
  · exact h y hy
  · rw [List.mem_singleton.mp hy]
    exact hx
theorem cut60 {x : Str} {n : Nat} (h : TOk x n) (hn : n ≤ 100000) : ∃ y, pSlS x none (some 60) = some y ∧ TOk y 60 := by
  obtain ⟨y, e, k⟩ := h.sl hn none (some 60)
  refine ⟨y, e, k.asc, ?_⟩
  unfold pSlS at e
  rw [if_pos (Nat.le_trans h.len hn)] at e
  cases e
  show (List.take _ (List.drop _ _)).toArray.size ≤ 60
  rw [List.size_toArray, List.length_take]
  have : HT.sIx x.length x.length (some 60) ≤ 60 := Nat.min_le_left _ _
  omega
theorem b2_ok {x : Str} {i : Int} {l : List Str} {bx : List Int} {k : Int} (hx : TOk x 57) (hl : AllT l) (hn : l.length < 100000) (h : Bok bx k) (hk : k + 300 < 2147483648) : Wp (P_law_b2 x i (l, bx)) fun r => AllT r.1 ∧ r.1.length = l.length + 1 ∧ Bok r.2 (k + 17) := by
  unfold P_law_b2
  refine wp_bind (spoilt_wp hx (by omega) h (by omega)) fun r15 h15 => ?_
  refine wp_bind (take_wp h15.2 (by omega) (by omega)) fun r16 h16 => ?_
  refine wp_bind (R := fun z => TOk z.1 3000 ∧ Bok z.2 (k + 17)) ?_ fun z hz => ?_
  · refine wp_ifd (fun _ => wp_some ⟨h15.1.mono (by omega), h16.2.mono (by omega)⟩) fun _ => ?_
    refine wp_bind (spoilt_wp h15.1 (by omega) h16.2 (by omega)) fun r17 h17 => ?_
    exact wp_some ⟨h17.1.mono (by omega), h17.2.mono (by omega)⟩
  obtain ⟨y, e, hy⟩ := cut60 hz.1 (by omega)
  refine wp_be e ?_
  refine wp_be (if_pos hn) ?_
  exact wp_some ⟨hl.snoc hy, by rw [List.length_append]; rfl, hz.2⟩
theorem b4_ok {cs : List Int} {i : Int} {l : List Str} (hi : 0 ≤ i) (hl : AllT l) (hn : l.length < 90000) : Wp (P_law_b4 cs i l) fun r => AllT r ∧ r.length = l.length + 13 := by
  unfold P_law_b4
  refine wp_bind (box_wp cs i hi) fun b hb => ?_
  refine wp_bind (take_wp hb (by omega) (by omega)) fun r9 h9 => ?_
  refine wp_bind (R := fun z => TOk z.1 57 ∧ Bok z.2 19) ?_ fun z hz => ?_
  · refine wp_ifd (fun _ => ?_) fun _ => ?_
    · refine wp_bind (word_wp (.inl ⟨rfl, rfl⟩) (a := 99) (b := 115) (c := 112) (by decide +kernel) (by omega) (by omega) (by omega) h9.2 (by omega)) fun r hr => ?_
      exact wp_some ⟨hr.1, hr.2.mono (by omega)⟩
    · refine wp_bind (word_wp (.inr ⟨rfl, rfl⟩) (a := 109) (b := 102) (c := 114) (by decide +kernel) (by omega) (by omega) (by omega) h9.2 (by omega)) fun r hr => ?_
      exact wp_some ⟨hr.1, hr.2.mono (by omega)⟩
  refine wp_be (if_pos (by omega)) ?_
  refine wp_be (rng_eq (by omega)) ?_
  refine wp_bind (wp_loop (I := fun j s => AllT s.1 ∧ s.1.length = l.length + 1 + j ∧ Bok s.2 (19 + 17 * j)) ?_ ?_) fun s hs => ?_
  · refine ⟨hl.snoc (hz.1.mono (by omega)), by rw [List.length_append]; rfl, by simpa using hz.2⟩
  · intro j x s hx hs
    have hj := (List.getElem?_eq_some_iff.mp hx).1
    rw [rangeI_len] at hj
    refine wp_mono (b2_ok (l := s.1) (bx := s.2) hz.1 hs.1 (by omega) hs.2.2 (by omega)) fun r hr => ?_
    refine ⟨hr.1, by rw [hr.2.1, hs.2.1]; omega, ?_⟩
    have := hr.2.2
    have e : 19 + 17 * (j : Int) + 17 = 19 + 17 * ((j + 1 : Nat) : Int) := by omega
    rw [← e]
    exact this
  · rw [rangeI_len] at hs
    exact wp_some ⟨hs.1, by rw [hs.2.1]; rfl⟩
def txA : List Str := ["", "0", "0p", "0r", "0c", "0s", "0m", "0f", "1", "c", "p", "1c0s", "0c1p", "8s", "14p", "7s13p", "8f"]
def txB : List Str := ["40r", "7f39r", "1c1c", "1p1s", "1C", "1c 1s", " 1c", "1c ", "-1c", "+1p", "01p", "1.p"]
def txM : List Str := ["999999999c7s13p"]
def nin : Str := Txt.mul "9" 60
def txC : List Str := ["1000000000c", "999999999m7f39r", "1000000000m", "1c1f", "1m1s", "1cs", "12", "1_0p", nin]
def tok (x : Str) : Bool := (tl x).all (fun c => decide (c < 128)) && decide (x.length ≤ 60)
theorem tok_ok {x : Str} (h : tok x = true) : TOk x 60 := by
  unfold tok at h
  rw [Bool.and_eq_true] at h
  exact ⟨fun c hc => of_decide_eq_true (List.all_eq_true.mp h.1 c hc), of_decide_eq_true h.2⟩
theorem tx_ok : ((txA ++ txB ++ txM) ++ txC).all tok = true := by decide +kernel
theorem law_P (ns : List Int) (h63 : ns.length ≤ 63) : P_law ns = some true := by
  suffices h : Wp (P_law ns) fun r => r = true by
    obtain ⟨r, e, rfl⟩ := h
    exact e
  unfold P_law
  refine wp_be (v := txA) rfl ?_
  refine wp_be (v := txA ++ txB) rfl ?_
  refine wp_be (v := txA ++ txB ++ txM) rfl ?_
  refine wp_be (v := nin) rfl ?_
  refine wp_be (v := (txA ++ txB ++ txM) ++ txC) rfl ?_
  have h0 : AllT ((txA ++ txB ++ txM) ++ txC) := fun x hx => tok_ok (List.all_eq_true.mp tx_ok x hx)
  have hn0 : ((txA ++ txB ++ txM) ++ txC).length = 39 := by decide +kernel
  generalize ((txA ++ txB ++ txM) ++ txC) = tx at h0 hn0 ⊢
  refine wp_bind (folded_wp ns h63 6 (by omega)) fun cs hc => ?_
  refine wp_be (rng_eq (by unfold maxI; split <;> omega)) ?_
  have hlen : (rangeI (maxI 1 (cs.length : Int))).length ≤ 6 := by
    rw [rangeI_len]
    unfold maxI
    split <;> omega
  refine wp_bind (wp_loop (I := fun j s => AllT s ∧ s.length = 39 + 13 * j) ⟨h0, by omega⟩ ?_) fun s hs => ?_
  · intro j x s hx hs
    have hj := (List.getElem?_eq_some_iff.mp hx).1
    have hx0 := rangeI_mem (List.mem_of_getElem? hx)
    refine wp_mono (b4_ok hx0.1 hs.1 (by omega)) fun r hr => ⟨hr.1, by rw [hr.2, hs.2]; omega⟩
  have hall : AllT (s ++ cutL s none (some 60)) := fun x hx => by
    rcases List.mem_append.mp hx with hx | hx
    · exact hs.1 x hx
    · exact hs.1 x (List.mem_of_mem_drop (List.mem_of_mem_take hx))
  have hcl : (cutL s none (some 60)).length ≤ s.length := by
    unfold cutL
    rw [List.length_take, List.length_drop]
    omega
  refine wp_be (if_pos (by omega)) ?_
  refine wp_bind (wp_loopR (I := fun _ _ => True) trivial ?_) fun w hw => ?_
  · intro j x u hx _
    cases u
    exact wp_eq (b6_ok (hall x (List.mem_of_getElem? hx)) (by omega)) ⟨(), rfl, trivial⟩
  · obtain ⟨u, rfl, _⟩ := hw
    exact wp_some rfl
theorem law_true (ns : List Int) (h63 : ns.length ≤ 63) : ∃ outs, fm_law [.scr ns] = some (.dat (.bool true), outs) := by
  rw [q_law, law_P ns h63]
  exact ⟨_, rfl⟩
end Lw
namespace Lw
open PySem PySem.Spec PyProof.Rows L2 Cm
theorem facts {P : Program} {w : World} {K : PySem.W.Frag} {h : Heap} {mg : Str → Option Value} {f : Addr} (X : K.In h) (G : h.Ns mainGlobals mg) (hfa : mg ("law" : Str) = some (.ref f)) (cX : Cm.SaysX fa fn dsC kdC w K) :
    ∃ fd : FuncData, (∀ (s : Shared) (v : Value), BindsTo s fd ⟨[v], []⟩ [("_law_script", v)]) ∧ ∀ base : Heap, K.In base → base.Ns mainGlobals mg → FnOk P w K mg base CX0 11 f fd ["_law_script"] (spLaw K) := by
  have c := cX.d
  obtain ⟨f0, F0⟩ := c.def_ 0 (d := d_w_folded) rfl
  obtain ⟨f1, F1⟩ := c.def_ 1 (d := d_w_box) rfl
  obtain ⟨f2, F2⟩ := c.def_ 2 (d := d_w_take) rfl
  obtain ⟨f3, F3⟩ := c.def_ 3 (d := d_w_wide) rfl
  obtain ⟨f4, F4⟩ := c.def_ 4 (d := d_w_word) rfl
  obtain ⟨f5, F5⟩ := c.def_ 5 (d := d_w_parts) rfl
  obtain ⟨f6, F6⟩ := c.def_ 6 (d := d_w_spoilt) rfl
  obtain ⟨f7, F7⟩ := c.def_ 7 (d := d_w_read) rfl
  obtain ⟨f8, F8⟩ := c.def_ 8 (d := d_plain_number) rfl
  obtain ⟨f9, F9⟩ := c.def_ 9 (d := d_units_text) rfl
  obtain ⟨f10, F10⟩ := c.def_ 10 (d := d_units_in) rfl
  obtain ⟨f11, F11⟩ := c.def_ 11 (d := d_weight_in) rfl
  obtain ⟨f12, F12⟩ := c.def_ 12 (d := d_length_in) rfl
  obtain ⟨f13, F13⟩ := c.def_ 13 (d := d_w_same) rfl
  obtain ⟨f14, F14⟩ := c.def_ 14 (d := d_law) rfl
  have e := hfa.symm.trans (He.glo_ok X G (c.fact 14 (f := .glo "law") rfl))
  cases e
  have b := FunD.bindsA (ps := ["_law_script"]) F14 fun _ _ _ _ _ _ us hl => match us, hl with | [_], _ => rfl
  have T : Tx w K mg (fun k => ([f0, f1, f2, f3, f4, f5, f6, f7, f8, f9, f10, f11, f12, f13, f14] : List FuncData).getD k f0) := ⟨F0, He.glo_ok X G (c.fact 0 (f := .glo "_law_folded") rfl), F1, He.glo_ok X G (c.fact 1 (f := .glo "_law_box") rfl), F2, He.glo_ok X G (c.fact 2 (f := .glo "_law_take") rfl), F3, He.glo_ok X G (c.fact 3 (f := .glo "_law_wide") rfl), F4, He.glo_ok X G (c.fact 4 (f := .glo "_law_word") rfl), F5, He.glo_ok X G (c.fact 5 (f := .glo "_law_parts") rfl), F6, He.glo_ok X G (c.fact 6 (f := .glo "_law_spoilt") rfl), F7, He.glo_ok X G (c.fact 7 (f := .glo "_law_read") rfl), F8, He.glo_ok X G (c.fact 8 (f := .glo "plain_number") rfl), F9, He.glo_ok X G (c.fact 9 (f := .glo "units_text") rfl), F10, He.glo_ok X G (c.fact 10 (f := .glo "units_in") rfl), F11, He.glo_ok X G (c.fact 11 (f := .glo "weight_in") rfl), F12, He.glo_ok X G (c.fact 12 (f := .glo "length_in") rfl), F13, He.glo_ok X G (c.fact 13 (f := .glo "_law_same") rfl), F14, He.glo_ok X G (c.fact 14 (f := .glo "law") rfl), He.free_ok X G (c.fact 15 (f := .free "abs") rfl), He.free_ok X G (c.fact 16 (f := .free "all") rfl), He.free_ok X G (c.fact 17 (f := .free "bool") rfl), He.free_ok X G (c.fact 18 (f := .free "enumerate") rfl), He.free_ok X G (c.fact 19 (f := .free "int") rfl), He.free_ok X G (c.fact 20 (f := .free "isinstance") rfl), He.free_ok X G (c.fact 21 (f := .free "len") rfl), He.free_ok X G (c.fact 22 (f := .free "list") rfl), He.free_ok X G (c.fact 23 (f := .free "max") rfl), He.free_ok X G (c.fact 24 (f := .free "range") rfl), He.free_ok X G (c.fact 25 (f := .free "str") rfl), He.free_ok X G (c.fact 26 (f := .free "tuple") rfl), He.free_ok X G (c.fact 27 (f := .free "zip") rfl), He.str_ok X G (c.fact 28 (f := .str "FIGURES" "0123456789") rfl), ⟨He.glo_ok X G (c.fact 29 (f := .glo "LENGTH_UNITS") rfl), fun H => cX.dat 0 (p := ("LENGTH_UNITS", c_LENGTH_UNITS)) rfl H⟩, He.int_ok X G (c.fact 30 (f := .int "MOST_FIGURES" 9) rfl), ⟨He.glo_ok X G (c.fact 31 (f := .glo "WEIGHT_UNITS") rfl), fun H => cX.dat 1 (p := ("WEIGHT_UNITS", c_WEIGHT_UNITS)) rfl H⟩⟩
  exact ⟨_, fun s v => b s [v] rfl, fun base _ _ => (ok_law T).imp (law_imp law_true)⟩
end Lw
open PySem PySem.W PySem.Calls PyProof.Rows
set_option maxHeartbeats 0 in
theorem PySem.Challenge.cw_campcarry_k02_measure_texts_spoilt_holds : PySem.Challenge.rw_campcarry_k02_measure_texts_spoilt.Holds := by
  w_on; o_law
  refine HandSHeadRun.head_any (r := OpenLaw.row PySem.Challenge.rw_campcarry_k02_measure_texts_spoilt) (q := view (OpenLaw.row PySem.Challenge.rw_campcarry_k02_measure_texts_spoilt).prog [20]) (H := Lw.hk) (ob := Lw.ob) (M := 3000) (loose := ["FIGURES", "MOST_FIGURES", "WEIGHT_UNITS", "LENGTH_UNITS", "plain_number", "units_text", "units_in", "weight_in", "length_in", "_law_box", "_law_take", "_law_folded", "_law_wide", "_law_same", "_law_parts", "_law_read", "_law_word", "_law_spoilt"]) (d := HandSHeadRun.topDef (OpenLaw.row PySem.Challenge.rw_campcarry_k02_measure_texts_spoilt).prog 20) (kwd := []) Lw.ob_eq
    (by kernel_rfl) (fun s => by kernel_rfl) Lw.run (by kernel_rfl) (by kernel_rfl) (by kernel_rfl) (by rfl) (by first | assumption | decide +kernel) (by decide +kernel) ⟨rfl, rfl, rfl, rfl, rfl, by decide +kernel⟩ ?hw ?hc
  case hw => w_witness2
  case hc =>
    refine L2.walk_ofE (l := PySem.Challenge.rw_campcarry_k02_measure_texts_spoilt) (n := 63) (k := 11) (x := "_law_script") (CX := L2.CX0) rfl (by decide) (by kernel_rfl) ⟨rfl, by decide, by decide⟩ ?F (fun _ _ _ _ z => z)
    intro w mg fa h Y G hmg0
    obtain ⟨K, KX, c⟩ := Y
    have hmg : mg ("law" : PySem.Str) = some (.ref fa) := by
      have e : (HandSHeadRun.topDef (OpenLaw.row PySem.Challenge.rw_campcarry_k02_measure_texts_spoilt).prog 20).name = ("law" : PySem.Str) := by kernel_rfl
      rw [← e]
      exact hmg0
    obtain ⟨fd, hb, hF⟩ := Lw.facts (P := (PySem.Challenge.rw_campcarry_k02_measure_texts_spoilt).prog) (w := w) KX G hmg c
    exact ⟨K, fd, Cm.spLaw K, KX, hb, fun H a ns hl _ hS => ⟨a, ns, rfl, hS, hl, fun _ => rfl⟩, hF⟩
