import PyProof.Rows.All
import Wide.All
import OpenK.AllK
import Wide.FinOn
import HandS.ForMost
import HandS.HeadHook1
import HandS.Exc
import HandS.Style
import HandS.Defaults
import HandS.IsInst
import HandS.SetFor
import HandS.More
import KE.KStateDown
import HandS.SortInts
import HandS.Conv
import HandS.Steps
import HandS.Zip
import HandS.Strs
import HandS.TupAny
import KE.DataMinMax
import HandS.Iter
import HandS.Dict
import KE.SortKeyHeap
import HandS.DictTup
import KE.KDictWalk
import HandS.SortKw
import HandS.HeadHook2
import HandS.Text
import PyProof.StrBlock2
import HandS.HeadEnd
import KE.GoesNew
import HandS.Wide
import PyProof.Rows.StrRev
import PyProof.SliceStr2
import HandS.Head0
import HandS.Head1
import HandS.Head2
import PySem.Challenge.RW_campcarry_k01_measures_written
import Lean
import HandS.Ends
import HandS.Words
import HandS.WordsExc
set_option Elab.async false
set_option linter.all false
set_option maxRecDepth 100000
set_option maxHeartbeats 40000000
/-! Values instead of heaps: each expression and statement of a def is given a plain function on slots that hold data. -/
namespace Cm
open PySem L2

theorem same_tup {K : PySem.W.Frag} {H H' : Hp} {a : Addr} {xs : List V} (e : Same H H') (h : SqT K H a xs) : SqT K H' a xs := by
  rcases h with (h | ⟨o, h⟩) | h
  · exact .inl (.inl (e _ _ h))
  · exact .inl (.inr ⟨o, e _ _ h⟩)
  · exact .inr h
theorem same_rd {H H' : Hp} {a : Addr} {u : HO} (e : Same H H') (h : Rd H a u) : Rd H' a u := by
  rcases h with h | ⟨o, h⟩
  · exact .inl (e _ _ h)
  · exact .inr ⟨o, e _ _ h⟩
/-- a key as data -/
def keyD : Key → PyData
  | .inl i => .int i
  | .inr x => .str x
mutual
/-- a value that reads as data; its lists are tracked -/
inductive Dv (K : PySem.W.Frag) (H : Hp) : V → PyData → Prop
  | non : Dv K H .non .none
  | bl (b : Bool) : Dv K H (.bl b) (.bool b)
  | int (i : Int) : Dv K H (.int i) (.int i)
  | str (x : Str) : Dv K H (.str x) (.str x)
  | lst {a : Addr} {xs : List V} {ds : List PyData} : H a = some (.lst xs) → DvAll K H xs ds → Dv K H (.ref a) (.list ds)
  | tup {a : Addr} {xs : List V} {ds : List PyData} : SqT K H a xs → DvAll K H xs ds → Dv K H (.ref a) (.tuple ds)
  | dct {a : Addr} {kvs : List (Key × V)} {es : List (PyData × PyData)} : Rd H a (.dK kvs) → DvKv K H kvs es → Dv K H (.ref a) (.dict es)
inductive DvAll (K : PySem.W.Frag) (H : Hp) : List V → List PyData → Prop
  | nil : DvAll K H [] []
  | cons {v : V} {vs : List V} {d : PyData} {ds : List PyData} : Dv K H v d → DvAll K H vs ds → DvAll K H (v :: vs) (d :: ds)
inductive DvKv (K : PySem.W.Frag) (H : Hp) : List (Key × V) → List (PyData × PyData) → Prop
  | nil : DvKv K H [] []
  | cons {k : Key} {v : V} {kvs : List (Key × V)} {d : PyData} {es : List (PyData × PyData)} : Dv K H v d → DvKv K H kvs es → DvKv K H ((k, v) :: kvs) ((keyD k, d) :: es)
end
mutual
theorem Dv.dp {K : PySem.W.Frag} {H : Hp} : ∀ (d : PyData) (v : V), Dv K H v d → d.canLay0 = true → Dp K H v d
  | .none, _, h, _ => by cases h; exact .non
  | .bool b, _, h, _ => by cases h; exact .bl b
  | .int i, _, h, _ => by cases h; exact .int i
  | .str x, _, h, _ => by cases h; exact .str x
  | .list ds, _, h, c => by
    cases h with
    | lst hs ha => exact .lst (SqL.of hs) (DvAll.dp ds _ ha (by simpa [PyData.canLay0] using c))
  | .tuple ds, _, h, c => by
    cases h with
    | tup hs ha => exact .tup hs (DvAll.dp ds _ ha (by simpa [PyData.canLay0] using c))
  | .dict _, _, h, c => by simp [PyData.canLay0] at c
theorem DvAll.dp {K : PySem.W.Frag} {H : Hp} : ∀ (ds : List PyData) (vs : List V), DvAll K H vs ds → PyData.canLayAll0 ds = true → DpAll K H vs ds
  | [], _, h, _ => by cases h; exact .nil
  | d :: ds, _, h, c => by
    have c' : d.canLay0 = true ∧ PyData.canLayAll0 ds = true := by simpa [PyData.canLayAll0] using c
    cases h with
    | cons h1 h2 => exact .cons (Dv.dp d _ h1 c'.1) (DvAll.dp ds _ h2 c'.2)
end
mutual
theorem dv_mono' {K : PySem.W.Frag} {H H' : Hp} (e : Same H H') : ∀ {v : V} {d : PyData}, Dv K H v d → Dv K H' v d
  | _, _, .non => .non
  | _, _, .bl b => .bl b
  | _, _, .int i => .int i
  | _, _, .str x => .str x
  | _, _, .lst h q => .lst (e _ _ h) (dvAll_mono' e q)
  | _, _, .tup h q => .tup (same_tup e h) (dvAll_mono' e q)
  | _, _, .dct h q => .dct (same_rd e h) (dvKv_mono e q)
theorem dvAll_mono' {K : PySem.W.Frag} {H H' : Hp} (e : Same H H') : ∀ {vs : List V} {ds : List PyData}, DvAll K H vs ds → DvAll K H' vs ds
  | _, _, .nil => .nil
  | _, _, .cons h1 h2 => .cons (dv_mono' e h1) (dvAll_mono' e h2)
theorem dvKv_mono {K : PySem.W.Frag} {H H' : Hp} (e : Same H H') : ∀ {vs : List (Key × V)} {ds : List (PyData × PyData)}, DvKv K H vs ds → DvKv K H' vs ds
  | _, _, .nil => .nil
  | _, _, .cons h1 h2 => .cons (dv_mono' e h1) (dvKv_mono e h2)
end
theorem dv_mono {K : PySem.W.Frag} {H H' : Hp} (e : Same H H') (d : PyData) (v : V) (h : Dv K H v d) : Dv K H' v d := dv_mono' e h
theorem dvAll_mono {K : PySem.W.Frag} {H H' : Hp} (e : Same H H') (ds : List PyData) (vs : List V) (h : DvAll K H vs ds) : DvAll K H' vs ds := dvAll_mono' e h
theorem DvAll.len {K : PySem.W.Frag} {H : Hp} : ∀ {vs : List V} {ds : List PyData}, DvAll K H vs ds → vs.length = ds.length
  | _, _, .nil => rfl
  | _, _, .cons _ h => by
    have := DvAll.len h
    simp [this]
theorem DvAll.get {K : PySem.W.Frag} {H : Hp} : ∀ {vs : List V} {ds : List PyData}, DvAll K H vs ds → ∀ (i : Nat) (d : PyData), ds[i]? = some d → ∃ v, vs[i]? = some v ∧ Dv K H v d
  | _, _, .nil, i, d, h => by simp at h
  | _, _, .cons h1 h2, 0, d, h => by
    simp at h
    subst h
    exact ⟨_, rfl, h1⟩
  | _, _, .cons h1 h2, i + 1, d, h => by
    obtain ⟨v, e, q⟩ := DvAll.get h2 i d (by simpa using h)
    exact ⟨v, by simpa using e, q⟩
theorem DvAll.append {K : PySem.W.Frag} {H : Hp} : ∀ {vs ws : List V} {ds es : List PyData}, DvAll K H vs ds → DvAll K H ws es → DvAll K H (vs ++ ws) (ds ++ es)
  | _, _, _, _, .nil, h => h
  | _, _, _, _, .cons h1 h2, h => .cons h1 (DvAll.append h2 h)
theorem DvAll.set {K : PySem.W.Frag} {H : Hp} {v : V} {d : PyData} (q : Dv K H v d) : ∀ {vs : List V} {ds : List PyData} (i : Nat), DvAll K H vs ds → DvAll K H (vs.set i v) (ds.set i d)
  | _, _, _, .nil => .nil
  | _, _, 0, .cons _ h2 => .cons q h2
  | _, _, i + 1, .cons h1 h2 => .cons h1 (DvAll.set q i h2)
theorem DvAll.take {K : PySem.W.Frag} {H : Hp} : ∀ {vs : List V} {ds : List PyData} (n : Nat), DvAll K H vs ds → DvAll K H (vs.take n) (ds.take n)
  | _, _, 0, _ => .nil
  | _, _, _ + 1, .nil => .nil
  | _, _, n + 1, .cons h1 h2 => .cons h1 (DvAll.take n h2)
theorem DvAll.drop {K : PySem.W.Frag} {H : Hp} : ∀ {vs : List V} {ds : List PyData} (n : Nat), DvAll K H vs ds → DvAll K H (vs.drop n) (ds.drop n)
  | _, _, 0, h => h
  | _, _, _ + 1, .nil => .nil
  | _, _, n + 1, .cons h1 h2 => DvAll.drop n h2
theorem DvAll.rev {K : PySem.W.Frag} {H : Hp} : ∀ {vs : List V} {ds : List PyData}, DvAll K H vs ds → DvAll K H vs.reverse ds.reverse
  | _, _, .nil => .nil
  | _, _, .cons h1 h2 => by
    rw [List.reverse_cons, List.reverse_cons]
    exact DvAll.append (DvAll.rev h2) (.cons h1 .nil)
theorem DvAll.erase {K : PySem.W.Frag} {H : Hp} : ∀ {vs : List V} {ds : List PyData} (i : Nat), DvAll K H vs ds → DvAll K H (vs.eraseIdx i) (ds.eraseIdx i)
  | _, _, _, .nil => .nil
  | _, _, 0, .cons _ h2 => h2
  | _, _, i + 1, .cons h1 h2 => .cons h1 (DvAll.erase i h2)

/-- what is known: objects that never change, and where the store's cells lie -/
structure Kn where
  k : Hp
  P : Nat → Option Addr
instance : CoeFun Kn (fun _ => Addr → Option HO) := ⟨Kn.k⟩
instance : Coe Kn Hp := ⟨Kn.k⟩
def Kn.upd (Hk : Kn) (p : Addr) (o : HO) : Kn := ⟨L2.upd Hk.k p o, Hk.P⟩
/-- more is known -/
structure KSame (a b : Kn) : Prop where
  s : Same a.k b.k
  p : ∀ n x, a.P n = some x → b.P n = some x
theorem KSame.refl (a : Kn) : KSame a a := ⟨Same.refl _, fun _ _ h => h⟩
theorem KSame.trans {a b c : Kn} (h : KSame a b) (g : KSame b c) : KSame a c := ⟨h.s.trans g.s, fun n x q => g.p n x (h.p n x q)⟩
theorem KSame.seq {a b : Kn} (h : KSame a b) {K : PySem.W.Frag} {l : Addr} {xs : List V} (q : SqL K a l xs) : SqL K b l xs := h.s.seq q
theorem KSame.free {a b : Kn} (h : KSame a b) {p : Addr} (q : b p = none) : a p = none := h.s.free q
instance {a b : Kn} : Coe (KSame a b) (Same a.k b.k) := ⟨KSame.s⟩
/-! ### the store: values that may hold places, cells -/
inductive PV where
  | dat (d : PyData)
  | ref (n : Nat)
  | tup (ps : List PV)
inductive MC where
  | lst (ps : List PV)
  | dct (es : List (PyData × PV))
  | ins (C : Str) (fs : List (Str × PV))
  /-- known from now on -/
  | frz (d : PyData)
def MC.live : MC → Prop
  | .frz _ => False
  | _ => True
mutual
inductive PvOk (K : PySem.W.Frag) (Hk : Kn) : V → PV → Prop
  | dat {v : V} {d : PyData} : Dv K Hk v d → PvOk K Hk v (.dat d)
  | ref {a : Addr} {n : Nat} : Hk.P n = some a → PvOk K Hk (.ref a) (.ref n)
  | tup {a : Addr} {vs : List V} {ps : List PV} : SqT K Hk a vs → PvAll K Hk vs ps → PvOk K Hk (.ref a) (.tup ps)
inductive PvAll (K : PySem.W.Frag) (Hk : Kn) : List V → List PV → Prop
  | nil : PvAll K Hk [] []
  | cons {v : V} {vs : List V} {p : PV} {ps : List PV} : PvOk K Hk v p → PvAll K Hk vs ps → PvAll K Hk (v :: vs) (p :: ps)
end
mutual
theorem PvOk.mono {K : PySem.W.Frag} {Hk Hk' : Kn} (e : KSame Hk Hk') : ∀ {v : V} {p : PV}, PvOk K Hk v p → PvOk K Hk' v p
  | _, _, .dat h => .dat (dv_mono e.s _ _ h)
  | _, _, .ref h => .ref (e.p _ _ h)
  | _, _, .tup h q => .tup (same_tup e.s h) (PvAll.mono e q)
theorem PvAll.mono {K : PySem.W.Frag} {Hk Hk' : Kn} (e : KSame Hk Hk') : ∀ {vs : List V} {ps : List PV}, PvAll K Hk vs ps → PvAll K Hk' vs ps
  | _, _, .nil => .nil
  | _, _, .cons h1 h2 => .cons (h1.mono e) (PvAll.mono e h2)
end
inductive PvKv (K : PySem.W.Frag) (Hk : Kn) : List (Key × V) → List (PyData × PV) → Prop
  | nil : PvKv K Hk [] []
  | cons {k : Key} {v : V} {kvs : List (Key × V)} {p : PV} {es : List (PyData × PV)} : PvOk K Hk v p → PvKv K Hk kvs es → PvKv K Hk ((k, v) :: kvs) ((keyD k, p) :: es)
inductive PvFs (K : PySem.W.Frag) (Hk : Kn) : List (Str × V) → List (Str × PV) → Prop
  | nil : PvFs K Hk [] []
  | cons {k : Str} {v : V} {kvs : List (Str × V)} {p : PV} {es : List (Str × PV)} : PvOk K Hk v p → PvFs K Hk kvs es → PvFs K Hk ((k, v) :: kvs) ((k, p) :: es)
theorem PvKv.mono {K : PySem.W.Frag} {Hk Hk' : Kn} (e : KSame Hk Hk') : ∀ {vs : List (Key × V)} {ps : List (PyData × PV)}, PvKv K Hk vs ps → PvKv K Hk' vs ps
  | _, _, .nil => .nil
  | _, _, .cons h1 h2 => .cons (h1.mono e) (PvKv.mono e h2)
theorem PvFs.mono {K : PySem.W.Frag} {Hk Hk' : Kn} (e : KSame Hk Hk') : ∀ {vs : List (Str × V)} {ps : List (Str × PV)}, PvFs K Hk vs ps → PvFs K Hk' vs ps
  | _, _, .nil => .nil
  | _, _, .cons h1 h2 => .cons (h1.mono e) (PvFs.mono e h2)
/-- a cell of the store as it stands -/
def CellM (K : PySem.W.Frag) (Hk : Kn) (H : Hp) (a : Addr) : MC → Prop
  | .lst ps => ∃ vs, H a = some (.lst vs) ∧ PvAll K Hk vs ps
  | .dct es => ∃ kvs, H a = some (.dK kvs) ∧ PvKv K Hk kvs es
  | .ins C fs => ∃ dx vs, H a = some (.ins (He.ga K C) dx vs) ∧ H dx = some (.own a) ∧ PvFs K Hk vs fs
  | .frz d => Dv K Hk (.ref a) d
theorem CellM.mono {K : PySem.W.Frag} {Hk Hk' : Kn} {H H' : Hp} {a : Addr} {c : MC} (h : CellM K Hk H a c) (e : KSame Hk Hk') (k : ∀ o, H a = some o → H' a = some o) (kd : ∀ dx, H dx = some (.own a) → H' dx = some (.own a)) : CellM K Hk' H' a c := by
  cases c with
  | lst ps =>
    obtain ⟨vs, h1, h2⟩ := h
    exact ⟨vs, k _ h1, h2.mono e⟩
  | dct es =>
    obtain ⟨vs, h1, h2⟩ := h
    exact ⟨vs, k _ h1, h2.mono e⟩
  | ins C fs =>
    obtain ⟨dx, vs, h1, h2, h3⟩ := h
    exact ⟨dx, vs, k _ h1, kd _ h2, h3.mono e⟩
  | frz d => exact dv_mono e.s _ _ h
theorem CellM.there {K : PySem.W.Frag} {Hk : Kn} {H : Hp} {a : Addr} {c : MC} (h : CellM K Hk H a c) (l : c.live) : ∃ o, H a = some o ∧ ∀ x, o ≠ .own x := by
  cases c with
  | lst ps =>
    obtain ⟨vs, h1, h2⟩ := h
    exact ⟨_, h1, fun x z => by cases z⟩
  | dct es =>
    obtain ⟨vs, h1, h2⟩ := h
    exact ⟨_, h1, fun x z => by cases z⟩
  | ins C fs =>
    obtain ⟨dx, vs, h1, h2, h3⟩ := h
    exact ⟨_, h1, fun x z => by cases z⟩
  | frz d => cases l
/-- what a mutable name holds -/
inductive Cell where
  | lst (ds : List PyData)
  | dct (es : List (PyData × PyData))
/-- a cell as data -/
def Cell.dat : Cell → PyData
  | .lst ds => .list ds
  | .dct es => .dict es
inductive Slot where
  | no
  | val (d : PyData)
  | own (c : Cell)
  | io (k : Nat) (c : Cell)
  | scr (ns : List Int)
  | pin (k : Nat)
  /-- a value that may hold places of the store -/
  | pv (p : PV)
  /-- the store: the last slot of a frame that has one -/
  | sto (M : List MC)
abbrev Sl := List Slot
inductive Res where
  | dat (d : PyData)
  | new (c : Cell)
  | slt (i : Nat)
  | pv (p : PV)
def Slot.mut : Slot → Prop
  | .own _ => True
  | .io _ _ => True
  | _ => False
def CellAt (K : PySem.W.Frag) (Hk H : Hp) (a : Addr) : Cell → Prop
  | .lst ds => ∃ vs, H a = some (.lst vs) ∧ DvAll K Hk vs ds
  | .dct es => ∃ kvs, H a = some (.dK kvs) ∧ DvKv K Hk kvs es
/-- the object of a cell -/
theorem CellAt.obj {K : PySem.W.Frag} {Hk H : Hp} {a : Addr} {c : Cell} (h : CellAt K Hk H a c) : ∃ o, H a = some o ∧ ∀ Hk' : Hp, Same Hk Hk' → Hk' a = some o → Dv K Hk' (.ref a) c.dat := by
  cases c with
  | lst ds =>
    obtain ⟨vs, h1, h2⟩ := h
    exact ⟨_, h1, fun Hk' e q => .lst q (dvAll_mono e _ _ h2)⟩
  | dct es =>
    obtain ⟨vs, h1, h2⟩ := h
    exact ⟨_, h1, fun Hk' e q => .dct (.inl q) (dvKv_mono e h2)⟩
theorem CellAt.mono {K : PySem.W.Frag} {Hk Hk' H H' : Hp} {a : Addr} {c : Cell} (h : CellAt K Hk H a c) (e : Same Hk Hk') (k : ∀ o, H a = some o → H' a = some o) : CellAt K Hk' H' a c := by
  cases c with
  | lst ds =>
    obtain ⟨vs, h1, h2⟩ := h
    exact ⟨vs, k _ h1, dvAll_mono e _ _ h2⟩
  | dct es =>
    obtain ⟨vs, h1, h2⟩ := h
    exact ⟨vs, k _ h1, dvKv_mono e h2⟩
theorem CellAt.there {K : PySem.W.Frag} {Hk H : Hp} {a : Addr} {c : Cell} (h : CellAt K Hk H a c) : ∃ o, H a = some o := by
  cases c with
  | lst ds =>
    obtain ⟨vs, h1, h2⟩ := h
    exact ⟨_, h1⟩
  | dct es =>
    obtain ⟨vs, h1, h2⟩ := h
    exact ⟨_, h1⟩

/-- what stood at the frame's beginning: known, all, and the cells that may be changed -/
structure Fb where
  K0 : Kn
  H0 : Hp
  A : Nat → Option Addr
  P : Nat → Option Addr
  /-- the store's cells that stood at the beginning -/
  S : Addr → Prop := fun _ => False
/-- the cells that may be changed -/
def Fb.io (B : Fb) (a : Addr) : Prop := (∃ k, B.A k = some a) ∨ B.S a
def SlotOk (K : PySem.W.Frag) (B : Fb) (Hk : Kn) (H : Hp) (s : Slot) (o : Option V) : Prop := match s with
  | .no => True
  | .val d => ∃ v, o = some v ∧ Dv K Hk v d
  | .own c => ∃ a, o = some (.ref a) ∧ Hk a = none ∧ B.H0 a = none ∧ CellAt K Hk H a c
  | .io k c => ∃ a, o = some (.ref a) ∧ Hk a = none ∧ B.A k = some a ∧ CellAt K Hk H a c
  | .scr ns => ∃ a, o = some (.ref a) ∧ SqL K Hk a (ns.map V.int)
  | .pin k => ∃ a, o = some (.ref a) ∧ B.P k = some a
  | .pv p => ∃ v, o = some v ∧ PvOk K Hk v p
  | .sto _ => True
/-- the store as it stands -/
structure StoOk (K : PySem.W.Frag) (B : Fb) (Hk : Kn) (H : Hp) (M : List MC) : Prop where
  cel : ∀ (n : Nat) c, M[n]? = some c → ∃ a, Hk.P n = some a ∧ CellM K Hk H a c ∧ (c.live → Hk a = none)
  inj : ∀ (n m : Nat) a, Hk.P n = some a → Hk.P m = some a → n = m
  top : ∀ (n : Nat), M.length ≤ n → Hk.P n = none
def HasSto (env : Sl) (M : List MC) : Prop := env[env.length - 1]? = some (.sto M)
structure Rel (K : PySem.W.Frag) (B : Fb) (env : Sl) (σ : St) (Hk : Kn) (H : Hp) : Prop where
  ex : Same Hk H
  kn : KSame B.K0 Hk
  fr : ∀ a, Hk a ≠ none → B.K0 a = none → B.H0 a = none
  kp : ∀ a o, B.H0 a = some o → ¬ B.io a → H a = some o
  oin : ∀ a, B.io a → H a ≠ none ∧ Hk a = none
  o0 : ∀ a, B.io a → B.H0 a ≠ none
  len : env.length = σ.length
  slot : ∀ (i : Nat) s, env[i]? = some s → ∃ o, σ[i]? = some o ∧ SlotOk K B Hk H s o
  sep : ∀ (i j : Nat) s t a, env[i]? = some s → env[j]? = some t → s.mut → t.mut → σ[i]? = some (some (V.ref a)) → σ[j]? = some (some (V.ref a)) → i = j
  sok : ∀ M, HasSto env M → StoOk K B Hk H M
  pin : ∀ (n : Nat) a, Hk.P n = some a → H a ≠ none ∧ (Hk a = none → B.H0 a = none ∨ B.io a)
  psep : ∀ (i : Nat) s a (n : Nat), env[i]? = some s → s.mut → σ[i]? = some (some (V.ref a)) → Hk.P n ≠ some a
def ResOk (K : PySem.W.Frag) (B : Fb) (env : Sl) (σ : St) (Hk : Kn) (H : Hp) (r : Res) (v : V) : Prop := match r with
  | .dat d => Dv K Hk v d
  | .new c => ∃ a, v = .ref a ∧ Hk a = none ∧ B.H0 a = none ∧ CellAt K Hk H a c ∧ (∀ (n : Nat), Hk.P n ≠ some a) ∧ ∀ (j : Nat) s, env[j]? = some s → s.mut → σ[j]? ≠ some (some (V.ref a))
  | .slt i => σ[i]? = some (some v)
  | .pv p => PvOk K Hk v p

section
variable {K : PySem.W.Frag} {B : Fb} {env : Sl} {σ : St} {Hk Hk' : Kn} {H H' : Hp}
theorem ne_none {H : Hp} {a : Addr} {o : HO} (h : H a = some o) : H a ≠ none := by rw [h]; exact fun z => nomatch z
theorem MC.alive (c : MC) : c.live ∨ ∃ d, c = .frz d := by
  cases c with
  | frz d => exact .inr ⟨d, rfl⟩
  | lst _ => exact .inl trivial
  | dct _ => exact .inl trivial
  | ins _ _ => exact .inl trivial
/-- a store's cells, where others change -/
theorem StoOk.mono {M : List MC} (S : StoOk K B Hk H M) (e : Same Hk Hk') (hP : Hk'.P = Hk.P) (u : ∀ n a, Hk.P n = some a → Hk a = none → Hk' a = none) (k : ∀ a o, (∃ n, Hk.P n = some a) → H a = some o → H' a = some o) (kd : ∀ dx a, H dx = some (.own a) → H' dx = some (.own a)) : StoOk K B Hk' H' M where
  cel := fun n c h => by
    obtain ⟨a, h1, h2, h3⟩ := S.cel n c h
    refine ⟨a, by rw [hP]; exact h1, h2.mono ⟨e, fun n x q => by rw [hP]; exact q⟩ (fun o => k a o ⟨n, h1⟩) (fun dx => kd dx a), fun l => u n a h1 (h3 l)⟩
  inj := fun n m a h1 h2 => S.inj n m a (by rw [← hP]; exact h1) (by rw [← hP]; exact h2)
  top := fun n h => by rw [hP]; exact S.top n h
theorem hasSto_set {i : Nat} {s : Slot} {M : List MC} (h : HasSto (env.set i s) M) (hs : ∀ M, s ≠ .sto M) : HasSto env M := by
  unfold HasSto at *
  rw [List.length_set] at h
  by_cases e : i = env.length - 1
  · subst e
    by_cases hl : env.length - 1 < env.length
    · rw [List.getElem?_set_self hl] at h
      exact absurd (Option.some.inj h) (hs M)
    · rw [List.getElem?_eq_none (by rw [List.length_set]; omega)] at h
      cases h
  · rw [List.getElem?_set_ne e] at h
    exact h
/-- more is known, all stays -/
theorem Rel.grow (R : Rel K B env σ Hk H) (e : Same Hk Hk') (e' : Same Hk' H') (s : Same H H') (f : ∀ a, Hk' a ≠ none → Hk a = none → H a = none) (hP : Hk'.P = Hk.P := by rfl) : Rel K B env σ Hk' H' where
  ex := e'
  kn := R.kn.trans ⟨e, fun n x q => by rw [hP]; exact q⟩
  fr := fun a h1 h2 => by
    by_cases q : Hk a = none
    · have hn := f a h1 q
      cases hb : B.H0 a with
      | none => rfl
      | some o =>
        by_cases ho : B.io a
        · exact absurd hn (R.oin a ho).1
        · rw [R.kp a o hb ho] at hn
          cases hn
    · exact R.fr a q h2
  kp := fun a o h1 h2 => s a o (R.kp a o h1 h2)
  oin := fun a h => by
    obtain ⟨h1, h2⟩ := R.oin a h
    obtain ⟨o, ho⟩ := Option.ne_none_iff_exists'.mp h1
    refine ⟨ne_none (s a o ho), ?_⟩
    cases q : Hk' a with
    | none => rfl
    | some u => exact absurd (f a (ne_none q) h2) h1
  o0 := R.o0
  len := R.len
  slot := fun i t h => by
    obtain ⟨o, h1, h2⟩ := R.slot i t h
    refine ⟨o, h1, ?_⟩
    have fresh : ∀ a c, Hk a = none → CellAt K Hk H a c → Hk' a = none := fun a c z w => by
      obtain ⟨u, hu⟩ := w.there
      cases q : Hk' a with
      | none => rfl
      | some x => exact absurd (f a (ne_none q) z) (ne_none hu)
    cases t with
    | no => trivial
    | sto M => trivial
    | val d =>
      obtain ⟨v, e1, q⟩ := h2
      exact ⟨v, e1, dv_mono e d v q⟩
    | scr ns =>
      obtain ⟨a, e1, q⟩ := h2
      exact ⟨a, e1, e.seq q⟩
    | pin a => exact h2
    | pv p =>
      obtain ⟨v, e1, q⟩ := h2
      exact ⟨v, e1, q.mono ⟨e, fun n x q => by rw [hP]; exact q⟩⟩
    | own c =>
      obtain ⟨a, e1, q1, q2, q3⟩ := h2
      exact ⟨a, e1, fresh a c q1 q3, q2, q3.mono e fun o => s a o⟩
    | io k c =>
      obtain ⟨a, e1, q1, q2, q3⟩ := h2
      exact ⟨a, e1, fresh a c q1 q3, q2, q3.mono e fun o => s a o⟩
  sep := R.sep
  sok := fun M h => (R.sok M h).mono e hP (fun n a h1 h2 => by
    cases q : Hk' a with
    | none => rfl
    | some x => exact absurd (f a (ne_none q) h2) (R.pin n a h1).1) (fun a o _ => s a o) fun dx a => s dx _
  pin := fun n a h => by
    obtain ⟨h1, h2⟩ := R.pin n a (by rw [← hP]; exact h)
    obtain ⟨o, ho⟩ := Option.ne_none_iff_exists'.mp h1
    exact ⟨ne_none (s a o ho), fun z => h2 (e.free z)⟩
  psep := fun i t a n h1 h2 h3 => by rw [hP]; exact R.psep i t a n h1 h2 h3
theorem Rel.fresh0 (R : Rel K B env σ Hk H) {p : Addr} (h : H p = none) : B.H0 p = none := by
  cases hb : B.H0 p with
  | none => rfl
  | some o =>
    by_cases ho : B.io p
    · exact absurd h (R.oin p ho).1
    · rw [R.kp p o hb ho] at h
      cases h
theorem same_upd {H : Hp} {p : Addr} {o : HO} (h : H p = none) : Same H (upd H p o) := fun b x e => by
  rw [upd_ne (ne_of_none e h)]
  exact e
theorem ksame_upd {Hk : Kn} {p : Addr} {o : HO} (h : Hk p = none) : KSame Hk (Hk.upd p o) := ⟨same_upd h, fun _ _ q => q⟩
theorem Rel.kfree (R : Rel K B env σ Hk H) {p : Addr} (h : H p = none) : Hk p = none := R.ex.free h
theorem Rel.pfree (R : Rel K B env σ Hk H) {p : Addr} (h : H p = none) (n : Nat) : Hk.P n ≠ some p := fun e => (R.pin n p e).1 h
/-- a new object is laid, not known -/
theorem Rel.laid (R : Rel K B env σ Hk H) {p : Addr} {o : HO} (h : H p = none) : Rel K B env σ Hk (upd H p o) :=
  R.grow (Same.refl _) (R.ex.trans (same_upd h)) (same_upd h) fun a h1 h2 => absurd h2 h1
theorem upd_known {H : Hp} {p a : Addr} {o : HO} (h : upd H p o a ≠ none) (h2 : H a = none) : a = p := by
  by_cases e : a = p
  · exact e
  · rw [upd_ne e] at h
    exact absurd h2 h
/-- a new object is laid and known -/
theorem Rel.laidK (R : Rel K B env σ Hk H) {p : Addr} {o : HO} (h : H p = none) : Rel K B env σ (Hk.upd p o) (upd H p o) :=
  R.grow (Hk' := Hk.upd p o) (same_upd (R.kfree h)) (fun b x e => by
    have e : upd Hk.k p o b = some x := e
    by_cases hb : b = p
    · subst hb
      rw [upd_same] at e ⊢
      exact e
    · rw [upd_ne hb] at e ⊢
      exact R.ex _ _ e) (same_upd h) fun a h1 h2 => by
    rw [upd_known (H := Hk.k) h1 h2]
    exact h
theorem Rel.mutNe (R : Rel K B env σ Hk H) {p : Addr} (h : H p = none) {j : Nat} {s : Slot} (hs : env[j]? = some s) (hm : s.mut) : σ[j]? ≠ some (some (V.ref p)) := fun e => by
  obtain ⟨o, h1, h2⟩ := R.slot j s hs
  rw [e] at h1
  cases h1
  cases s with
  | own c =>
    obtain ⟨a, e1, q1, q2, q3⟩ := h2
    obtain ⟨u, hu⟩ := q3.there
    cases e1
    rw [h] at hu
    cases hu
  | io k c =>
    obtain ⟨a, e1, q1, q2, q3⟩ := h2
    obtain ⟨u, hu⟩ := q3.there
    cases e1
    rw [h] at hu
    cases hu
  | _ => cases hm

/-! ### what an operation hands back -/
/-- dat: nothing is made, or a tuple; new: a list is made -/
def Out (K : PySem.W.Frag) (Hk H : Hp) (r : Res) (v : V) (H' : Hp) : Prop := match r with
  | .dat d => (H' = H ∧ Dv K Hk v d) ∨ ∃ p vs ds, d = .tuple ds ∧ v = .ref p ∧ H p = none ∧ H' = upd H p (.tup vs) ∧ DvAll K Hk vs ds
  | .new (.lst ds) => ∃ p vs, v = .ref p ∧ H p = none ∧ H' = upd H p (.lst vs) ∧ DvAll K Hk vs ds
  | .new (.dct es) => ∃ p kvs, v = .ref p ∧ H p = none ∧ H' = upd H p (.dK kvs) ∧ DvKv K Hk kvs es
  | _ => False
theorem Rel.out (R : Rel K B env σ Hk H) {r : Res} {v : V} (o : Out K Hk H r v H') : ∃ Hk' : Kn, Rel K B env σ Hk' H' ∧ KSame Hk Hk' ∧ ResOk K B env σ Hk' H' r v := by
  cases r with
  | dat d =>
    rcases o with ⟨rfl, q⟩ | ⟨p, vs, ds, rfl, rfl, hp, rfl, q⟩
    · exact ⟨Hk, R, KSame.refl _, q⟩
    · refine ⟨Hk.upd p (.tup vs), R.laidK hp, ksame_upd (R.kfree hp), ?_⟩
      exact .tup (SqT.of (show upd Hk.k p _ p = _ from upd_same)) (dvAll_mono (same_upd (R.kfree hp)) _ _ q)
  | new c =>
    cases c with
    | lst ds =>
      obtain ⟨p, vs, rfl, hp, rfl, q⟩ := o
      exact ⟨Hk, R.laid hp, KSame.refl _, p, rfl, R.kfree hp, R.fresh0 hp, ⟨vs, upd_same, q⟩, R.pfree hp, fun j s h1 h2 => R.mutNe hp h1 h2⟩
    | dct es =>
      obtain ⟨p, vs, rfl, hp, rfl, q⟩ := o
      exact ⟨Hk, R.laid hp, KSame.refl _, p, rfl, R.kfree hp, R.fresh0 hp, ⟨vs, upd_same, q⟩, R.pfree hp, fun j s h1 h2 => R.mutNe hp h1 h2⟩
  | slt i => exact False.elim o
  | pv p => exact False.elim o
/-- a cell of its own becomes known -/
theorem Rel.know (R : Rel K B env σ Hk H) {p : Addr} {ob : HO} (h : H p = some ob) (hk : Hk p = none) (h0 : B.H0 p = none) (hP : ∀ (n : Nat), Hk.P n ≠ some p)
    (hn : ∀ (j : Nat) s, env[j]? = some s → s.mut → σ[j]? ≠ some (some (V.ref p))) : Rel K B env σ (Hk.upd p ob) H where
  ex := fun b x e => by
    have e : upd Hk.k p ob b = some x := e
    by_cases hb : b = p
    · subst hb
      rw [upd_same] at e
      cases e
      exact h
    · rw [upd_ne hb] at e
      exact R.ex _ _ e
  kn := R.kn.trans (ksame_upd hk)
  fr := fun a h1 h2 => by
    by_cases hb : a = p
    · rw [hb]
      exact h0
    · have h1 : upd Hk.k p ob a ≠ none := h1
      rw [upd_ne hb] at h1
      exact R.fr a h1 h2
  kp := R.kp
  oin := fun a ha => by
    refine ⟨(R.oin a ha).1, ?_⟩
    have ne : a ≠ p := fun e => R.o0 a ha (by rw [e]; exact h0)
    show upd Hk.k p ob a = none
    rw [upd_ne ne]
    exact (R.oin a ha).2
  o0 := R.o0
  len := R.len
  slot := fun i t hi => by
    obtain ⟨o, h1, h2⟩ := R.slot i t hi
    refine ⟨o, h1, ?_⟩
    have sm : Same Hk.k (upd Hk.k p ob) := same_upd hk
    cases t with
    | no => trivial
    | sto M => trivial
    | val d =>
      obtain ⟨v, e1, q⟩ := h2
      exact ⟨v, e1, dv_mono sm d v q⟩
    | scr ns =>
      obtain ⟨a, e1, q⟩ := h2
      exact ⟨a, e1, sm.seq q⟩
    | pin a => exact h2
    | pv p =>
      obtain ⟨v, e1, q⟩ := h2
      exact ⟨v, e1, q.mono (ksame_upd hk)⟩
    | own c =>
      obtain ⟨a, e1, q1, q2, q3⟩ := h2
      have ne : a ≠ p := fun z => by
        subst e1 z
        exact hn i _ hi trivial h1
      exact ⟨a, e1, by show upd Hk.k p ob a = none; rw [upd_ne ne]; exact q1, q2, q3.mono sm fun o z => z⟩
    | io k c =>
      obtain ⟨a, e1, q1, q2, q3⟩ := h2
      have ne : a ≠ p := fun z => by
        subst e1 z
        exact hn i _ hi trivial h1
      exact ⟨a, e1, by show upd Hk.k p ob a = none; rw [upd_ne ne]; exact q1, q2, q3.mono sm fun o z => z⟩
  sep := R.sep
  sok := fun M h => (R.sok M h).mono (same_upd hk) rfl (fun n a h1 h2 => by
    have ne : a ≠ p := fun z => hP n (z ▸ h1)
    show upd Hk.k p ob a = none
    rw [upd_ne ne]
    exact h2) (fun _ _ _ z => z) fun _ _ z => z
  pin := fun n a h => by
    refine ⟨(R.pin n a h).1, fun z => (R.pin n a h).2 ?_⟩
    have z : upd Hk.k p ob a = none := z
    have ne : a ≠ p := fun e => by rw [e, upd_same] at z; cases z
    rw [upd_ne ne] at z
    exact z
  psep := R.psep
/-- a slot's own cell becomes known -/
theorem set_get {α : Type} {l : List α} {i j : Nat} {x y : α} (h : (l.set i x)[j]? = some y) : (j = i ∧ y = x) ∨ (j ≠ i ∧ l[j]? = some y) := by
  by_cases e : i = j
  · subst e
    by_cases hl : i < l.length
    · rw [List.getElem?_set_self hl] at h
      exact .inl ⟨rfl, (Option.some.inj h).symm⟩
    · rw [List.getElem?_eq_none (by rw [List.length_set]; omega)] at h
      cases h
  · rw [List.getElem?_set_ne e] at h
    exact .inr ⟨fun z => e z.symm, h⟩
/-- a slot is put otherwise, nothing else -/
theorem Rel.less (R : Rel K B env σ Hk H) {i : Nat} {s : Slot} (ns : ¬ s.mut) (hs : ∀ M, s ≠ .sto M) (h : ∀ o, σ[i]? = some o → SlotOk K B Hk H s o) : Rel K B (env.set i s) σ Hk H where
  ex := R.ex
  kn := R.kn
  fr := R.fr
  kp := R.kp
  oin := R.oin
  o0 := R.o0
  len := by rw [List.length_set]; exact R.len
  slot := fun j t hj => by
    rcases set_get hj with ⟨rfl, rfl⟩ | ⟨hne, hj'⟩
    · have hl : j < σ.length := by
        have := (List.getElem?_eq_some_iff.mp hj).1
        rw [List.length_set] at this
        rw [← R.len]
        exact this
      exact ⟨_, List.getElem?_eq_getElem hl, h _ (List.getElem?_eq_getElem hl)⟩
    · exact R.slot j t hj'
  sep := fun j k s t b hj hk ms mt g1 g2 => by
    rcases set_get hj with ⟨rfl, rfl⟩ | ⟨_, hj⟩
    · exact absurd ms ns
    · rcases set_get hk with ⟨rfl, rfl⟩ | ⟨_, hk⟩
      · exact absurd mt ns
      · exact R.sep j k s t b hj hk ms mt g1 g2
  sok := fun M h => R.sok M (hasSto_set h hs)
  pin := R.pin
  psep := fun j s a n hj ms g => by
    rcases set_get hj with ⟨rfl, rfl⟩ | ⟨_, hj⟩
    · exact absurd ms ns
    · exact R.psep j s a n hj ms g
theorem Rel.freezeC (R : Rel K B env σ Hk H) {i : Nat} {c : Cell} (h : env[i]? = some (.own c)) :
    ∃ a, ∃ Hk' : Kn, σ[i]? = some (some (V.ref a)) ∧ Rel K B (env.set i (.val c.dat)) σ Hk' H ∧ KSame Hk Hk' ∧ Dv K Hk' (.ref a) c.dat := by
  obtain ⟨o, h1, a, rfl, q1, q2, qc⟩ := R.slot i _ h
  obtain ⟨ob, q3, q4⟩ := qc.obj
  have sm : KSame Hk (Hk.upd a ob) := ksame_upd q1
  have dp : Dv K (Hk.upd a ob) (.ref a) c.dat := q4 _ sm.s upd_same
  have R1 : Rel K B (env.set i .no) σ Hk H := R.less (fun z => z) (fun M z => by cases z) fun o _ => trivial
  have R2 := R1.know q3 q1 q2 (fun n => R.psep i _ a n h trivial h1) fun j s hj hm e => by
    rcases set_get hj with ⟨rfl, rfl⟩ | ⟨ne, hj⟩
    · cases hm
    · exact ne (R.sep j i s _ a hj h hm trivial e h1)
  have R3 := R2.less (i := i) (s := .val c.dat) (fun z => z) (fun M z => by cases z) fun o ho => by
    rw [h1] at ho
    cases ho
    exact ⟨_, rfl, dp⟩
  rw [List.set_set] at R3
  exact ⟨a, _, h1, R3, sm, dp⟩
theorem Rel.freeze (R : Rel K B env σ Hk H) {i : Nat} {ds : List PyData} (h : env[i]? = some (.own (.lst ds))) :
    ∃ a, ∃ Hk' : Kn, σ[i]? = some (some (V.ref a)) ∧ Rel K B (env.set i (.val (.list ds))) σ Hk' H ∧ KSame Hk Hk' ∧ Dv K Hk' (.ref a) (.list ds) := R.freezeC h
/-- a name takes a value that is no cell of a slot -/
theorem Rel.setW (R : Rel K B env σ Hk H) {i : Nat} {s : Slot} {o : Option V} (ns : ¬ s.mut) (hs : ∀ M, s ≠ .sto M) (h : SlotOk K B Hk H s o) : Rel K B (env.set i s) (σ.set i o) Hk H where
  ex := R.ex
  kn := R.kn
  fr := R.fr
  kp := R.kp
  oin := R.oin
  o0 := R.o0
  len := by rw [List.length_set, List.length_set]; exact R.len
  slot := fun j t hj => by
    rcases set_get hj with ⟨rfl, rfl⟩ | ⟨hne, hj'⟩
    · have hl : j < σ.length := by
        have := (List.getElem?_eq_some_iff.mp hj).1
        rw [List.length_set] at this
        rw [← R.len]
        exact this
      exact ⟨o, by rw [List.getElem?_set_self hl], h⟩
    · obtain ⟨o, g1, g2⟩ := R.slot j t hj'
      exact ⟨o, by rw [List.getElem?_set_ne (fun z => hne z.symm)]; exact g1, g2⟩
  sep := fun j k s t b hj hk ms mt g1 g2 => by
    rcases set_get hj with ⟨rfl, rfl⟩ | ⟨n1, hj⟩
    · exact absurd ms ns
    · rcases set_get hk with ⟨rfl, rfl⟩ | ⟨n2, hk⟩
      · exact absurd mt ns
      · rw [List.getElem?_set_ne (fun z => n1 z.symm)] at g1
        rw [List.getElem?_set_ne (fun z => n2 z.symm)] at g2
        exact R.sep j k s t b hj hk ms mt g1 g2
  sok := fun M h => R.sok M (hasSto_set h hs)
  pin := R.pin
  psep := fun j s a n hj ms g => by
    rcases set_get hj with ⟨rfl, rfl⟩ | ⟨n1, hj⟩
    · exact absurd ms ns
    · rw [List.getElem?_set_ne (fun z => n1 z.symm)] at g
      exact R.psep j s a n hj ms g
/-- a name takes a value: known data -/
theorem Rel.setVal (R : Rel K B env σ Hk H) {i : Nat} {v : V} {d : PyData} (h : Dv K Hk v d) : Rel K B (env.set i (.val d)) (σ.set i (some v)) Hk H := R.setW (fun z => z) (fun M z => by cases z) ⟨v, rfl, h⟩
theorem Rel.setPv (R : Rel K B env σ Hk H) {i : Nat} {v : V} {p : PV} (h : PvOk K Hk v p) : Rel K B (env.set i (.pv p)) (σ.set i (some v)) Hk H := R.setW (fun z => z) (fun M z => by cases z) ⟨v, rfl, h⟩
/-- .. nothing that is told -/
theorem Rel.setNo (R : Rel K B env σ Hk H) {i : Nat} {o : Option V} : Rel K B (env.set i .no) (σ.set i o) Hk H := R.setW (fun z => z) (fun M z => by cases z) trivial
/-- .. a new cell -/
theorem Rel.setOwn (R : Rel K B env σ Hk H) {i : Nat} {a : Addr} {c : Cell} (h1 : Hk a = none) (h2 : B.H0 a = none) (h3 : CellAt K Hk H a c) (h5 : ∀ (n : Nat), Hk.P n ≠ some a) (h4 : ∀ (j : Nat) s, env[j]? = some s → s.mut → σ[j]? ≠ some (some (V.ref a))) :
    Rel K B (env.set i (.own c)) (σ.set i (some (V.ref a))) Hk H where
  ex := R.ex
  kn := R.kn
  fr := R.fr
  kp := R.kp
  oin := R.oin
  o0 := R.o0
  len := by rw [List.length_set, List.length_set]; exact R.len
  slot := fun j t hj => by
    rcases set_get hj with ⟨rfl, rfl⟩ | ⟨hne, hj'⟩
    · have hl : j < σ.length := by
        have := (List.getElem?_eq_some_iff.mp hj).1
        rw [List.length_set] at this
        rw [← R.len]
        exact this
      exact ⟨some (.ref a), by rw [List.getElem?_set_self hl], a, rfl, h1, h2, h3⟩
    · obtain ⟨o, g1, g2⟩ := R.slot j t hj'
      exact ⟨o, by rw [List.getElem?_set_ne (fun z => hne z.symm)]; exact g1, g2⟩
  sep := fun j k s t b hj hk ms mt g1 g2 => by
    rcases set_get hj with ⟨rfl, rfl⟩ | ⟨n1, hj2⟩
    · rcases set_get hk with ⟨rfl, rfl⟩ | ⟨n2, hk⟩
      · rfl
      · rw [List.getElem?_set_ne (fun z => n2 z.symm)] at g2
        rcases set_get g1 with ⟨_, e⟩ | ⟨z, _⟩
        · cases e
          exact absurd g2 (h4 k t hk mt)
        · exact absurd rfl z
    · rw [List.getElem?_set_ne (fun z => n1 z.symm)] at g1
      rcases set_get hk with ⟨rfl, rfl⟩ | ⟨n2, hk⟩
      · rcases set_get g2 with ⟨_, e⟩ | ⟨z, _⟩
        · cases e
          exact absurd g1 (h4 j s hj2 ms)
        · exact absurd rfl z
      · rw [List.getElem?_set_ne (fun z => n2 z.symm)] at g2
        exact R.sep j k s t b hj2 hk ms mt g1 g2
  sok := fun M h => R.sok M (hasSto_set h (fun M z => by cases z))
  pin := R.pin
  psep := fun j s b n hj ms g => by
    rcases set_get hj with ⟨rfl, rfl⟩ | ⟨n1, hj⟩
    · rcases set_get g with ⟨_, e⟩ | ⟨z, _⟩
      · cases e
        exact h5 n
      · exact absurd rfl z
    · rw [List.getElem?_set_ne (fun z => n1 z.symm)] at g
      exact R.psep j s b n hj ms g
/-- a cell of a name is changed -/
def Slot.put : Slot → Cell → Slot
  | .own _, c => .own c
  | .io k _, c => .io k c
  | s, _ => s
theorem Slot.put_sto {s : Slot} {c : Cell} (hm : s.mut) : ∀ M, s.put c ≠ .sto M := fun M z => by
  cases s with
  | own c => cases z
  | io k c => cases z
  | _ => cases hm
theorem Rel.change (R : Rel K B env σ Hk H) {i : Nat} {s : Slot} {c' : Cell} {a : Addr} {o' : HO} (hs : env[i]? = some s) (hm : s.mut) (ha : σ[i]? = some (some (V.ref a))) (h3 : CellAt K Hk (upd H a o') a c') :
    Rel K B (env.set i (s.put c')) σ Hk (upd H a o') := by
  obtain ⟨o, h1, h2⟩ := R.slot i s hs
  rw [ha] at h1
  cases h1
  have hk : Hk a = none := by
    cases s with
    | own c => obtain ⟨b, e1, q1, _⟩ := h2; cases e1; exact q1
    | io k c => obtain ⟨b, e1, q1, _⟩ := h2; cases e1; exact q1
    | _ => cases hm
  have h0 : B.H0 a = none ∨ B.io a := by
    cases s with
    | own c => obtain ⟨b, e1, _, q1, _⟩ := h2; cases e1; exact .inl q1
    | io k c => obtain ⟨b, e1, _, q1, _⟩ := h2; cases e1; exact .inr (.inl ⟨k, q1⟩)
    | _ => cases hm
  have hob : ∃ u, H a = some u ∧ ∀ x, u ≠ .own x := by
    have fin : ∀ c, CellAt K Hk H a c → ∃ u, H a = some u ∧ ∀ x, u ≠ .own x := fun c hc => by
      cases c with
      | lst ds =>
        obtain ⟨vs, g1, _⟩ := hc
        exact ⟨_, g1, fun x z => by cases z⟩
      | dct ds =>
        obtain ⟨vs, g1, _⟩ := hc
        exact ⟨_, g1, fun x z => by cases z⟩
    cases s with
    | own c => obtain ⟨b, e1, _, _, q⟩ := h2; cases e1; exact fin c q
    | io k c => obtain ⟨b, e1, _, _, q⟩ := h2; cases e1; exact fin c q
    | _ => cases hm
  refine ⟨?_, R.kn, R.fr, ?_, ?_, R.o0, ?_, ?_, ?_, fun M h => ?_, fun n b h => ?_, ?_⟩
  · intro b x e
    have hb : b ≠ a := fun z => by rw [z, hk] at e; cases e
    rw [upd_ne hb]
    exact R.ex _ _ e
  · intro b x e hO
    have hb : b ≠ a := fun z => by
      subst z
      rcases h0 with z | z
      · rw [z] at e; cases e
      · exact hO z
    rw [upd_ne hb]
    exact R.kp b x e hO
  · intro b hb
    refine ⟨?_, (R.oin b hb).2⟩
    by_cases e : b = a
    · rw [e, upd_same]
      exact fun z => nomatch z
    · rw [upd_ne e]
      exact (R.oin b hb).1
  · rw [List.length_set]
    exact R.len
  · intro j t hj
    rcases set_get hj with ⟨rfl, rfl⟩ | ⟨hne, hj⟩
    · refine ⟨_, ha, ?_⟩
      cases s with
      | own c => obtain ⟨b, e1, q1, q2, _⟩ := h2; cases e1; exact ⟨a, rfl, q1, q2, h3⟩
      | io k c => obtain ⟨b, e1, q1, q2, _⟩ := h2; cases e1; exact ⟨a, rfl, q1, q2, h3⟩
      | _ => cases hm
    · obtain ⟨o, g1, g2⟩ := R.slot j t hj
      refine ⟨o, g1, ?_⟩
      have nea : ∀ b, t.mut → o = some (.ref b) → b ≠ a := fun b hmt e z => by
        subst e z
        exact hne (R.sep j i t s b hj hs hmt hm g1 ha)
      cases t with
      | own c =>
        obtain ⟨b, e1, z1, z2, z3⟩ := g2
        exact ⟨b, e1, z1, z2, z3.mono (Same.refl _) fun o z => by rw [upd_ne (nea b trivial e1)]; exact z⟩
      | io k c =>
        obtain ⟨b, e1, z1, z2, z3⟩ := g2
        exact ⟨b, e1, z1, z2, z3.mono (Same.refl _) fun o z => by rw [upd_ne (nea b trivial e1)]; exact z⟩
      | _ => exact g2
  · have pm : ∀ {t : Slot} {c : Cell}, (t.put c).mut → t.mut := fun {t c} z => by
      cases t <;> exact z
    intro j k s1 t1 b hj hk' ms mt g1 g2
    rcases set_get hj with ⟨rfl, rfl⟩ | ⟨_, hj2⟩
    · rcases set_get hk' with ⟨rfl, rfl⟩ | ⟨_, hk'⟩
      · rfl
      · exact R.sep j k s t1 b hs hk' hm mt g1 g2
    · rcases set_get hk' with ⟨rfl, rfl⟩ | ⟨_, hk'⟩
      · exact R.sep j k s1 s b hj2 hs ms hm g1 g2
      · exact R.sep j k s1 t1 b hj2 hk' ms mt g1 g2
  · refine (R.sok M (hasSto_set h (Slot.put_sto hm))).mono (Same.refl _) rfl (fun _ _ _ z => z) (fun b o ⟨n, hb⟩ z => ?_) fun dx b z => ?_
    · have ne : b ≠ a := fun e => R.psep i s a n hs hm ha (e ▸ hb)
      rw [upd_ne ne]
      exact z
    · have ne : dx ≠ a := fun e => by
        obtain ⟨u, hu, hx⟩ := hob
        rw [e, hu] at z
        exact hx b (Option.some.inj z)
      rw [upd_ne ne]
      exact z
  · refine ⟨?_, (R.pin n b h).2⟩
    by_cases e : b = a
    · rw [e, upd_same]
      exact fun z => nomatch z
    · rw [upd_ne e]
      exact (R.pin n b h).1
  · intro j s1 b n hj ms g
    rcases set_get hj with ⟨rfl, rfl⟩ | ⟨_, hj2⟩
    · exact R.psep j s b n hs hm g
    · exact R.psep j s1 b n hj2 ms g
end
end Cm
namespace Cm
open PySem L2
abbrev ME := Sl → Option (Res × Sl)
abbrev MT := Sl → Option (Bool × Sl)
abbrev MA := Sl → Option (List Res × Sl)
/-- the reading of a value function -/
def tE (K : PySem.W.Frag) (m : ME) : TE := fun σ H Q => ∃ B env Hk r env', Rel K B env σ Hk H ∧ m env = some (r, env') ∧
  ∀ v Hk' H', Rel K B env' σ Hk' H' → KSame Hk Hk' → ResOk K B env' σ Hk' H' r v → Q v H'
def tT (K : PySem.W.Frag) (m : MT) : TT := fun σ H Q => ∃ B env Hk b env', Rel K B env σ Hk H ∧ m env = some (b, env') ∧
  ∀ Hk' H', Rel K B env' σ Hk' H' → KSame Hk Hk' → Q b H'
def stab : Res → Res
  | .new c => .dat c.dat
  | r => r
def RsOk (K : PySem.W.Frag) (σ : St) (Hk : Kn) (r : Res) (v : V) : Prop := match r with
  | .dat d => Dv K Hk v d
  | .slt i => σ[i]? = some (some v)
  | .pv p => PvOk K Hk v p
  | .new _ => False
inductive RsAll (K : PySem.W.Frag) (σ : St) (Hk : Kn) : List Res → List V → Prop
  | nil : RsAll K σ Hk [] []
  | cons {r : Res} {v : V} {rs : List Res} {vs : List V} : RsOk K σ Hk r v → RsAll K σ Hk rs vs → RsAll K σ Hk (r :: rs) (v :: vs)
def tA (K : PySem.W.Frag) (m : MA) : TA := fun σ H Q => ∃ B env Hk rs env', Rel K B env σ Hk H ∧ m env = some (rs, env') ∧
  ∀ vs Hk' H', Rel K B env' σ Hk' H' → KSame Hk Hk' → RsAll K σ Hk' rs vs → Q vs H'
section
variable {K : PySem.W.Frag} {B : Fb} {env : Sl} {σ : St} {Hk Hk' : Kn} {H H' : Hp} {r : Res} {v : V} {d : PyData}
theorem RsOk.mono (e : KSame Hk Hk') (h : RsOk K σ Hk r v) : RsOk K σ Hk' r v := by
  cases r with
  | dat d => exact dv_mono e d v h
  | slt i => exact h
  | new c => exact h
  | pv p => exact PvOk.mono e h
theorem RsAll.mono (e : KSame Hk Hk') : ∀ {rs : List Res} {vs : List V}, RsAll K σ Hk rs vs → RsAll K σ Hk' rs vs
  | _, _, .nil => .nil
  | _, _, .cons h t => .cons (h.mono e) (RsAll.mono e t)
theorem Rel.stab (R : Rel K B env σ Hk H) (h : ResOk K B env σ Hk H r v) : ∃ Hk' : Kn, Rel K B env σ Hk' H ∧ KSame Hk Hk' ∧ RsOk K σ Hk' (stab r) v := by
  cases r with
  | dat d => exact ⟨Hk, R, .refl _, h⟩
  | slt i => exact ⟨Hk, R, .refl _, h⟩
  | pv p => exact ⟨Hk, R, .refl _, h⟩
  | new c =>
    obtain ⟨a, rfl, h1, h2, hc, hP, h5⟩ := h
    obtain ⟨ob, h3, h4⟩ := hc.obj
    exact ⟨Hk.upd a ob, R.know h3 h1 h2 hP h5, ksame_upd h1, h4 _ (same_upd h1) upd_same⟩
/-- the store of a frame -/
def sto (env : Sl) : List MC := match env[env.length - 1]? with
  | some (.sto M) => M
  | _ => []
def datsP : List PV → Option (List PyData)
  | [] => some []
  | .dat d :: ps => (datsP ps).map (d :: ·)
  | _ :: _ => none
def datsK : List (PyData × PV) → Option (List (PyData × PyData))
  | [] => some []
  | (k, .dat d) :: ps => (datsK ps).map ((k, d) :: ·)
  | _ :: _ => none
/-- what holds data alone, as data -/
def PV.rd (M : List MC) : PV → Option PyData
  | .dat d => some d
  | .tup ps => (datsP ps).map .tuple
  | .ref n => match M[n]? with
    | some (.lst ps) => (datsP ps).map .list
    | some (.dct es) => (datsK es).map .dict
    | some (.frz d) => some d
    | _ => none
theorem datsP_dv {K : PySem.W.Frag} {Hk : Kn} : ∀ {ps : List PV} {vs : List V} {ds : List PyData}, PvAll K Hk vs ps → datsP ps = some ds → DvAll K Hk vs ds
  | [], _, ds, .nil, h => by
    cases h
    exact .nil
  | .dat d :: ps, _, ds, .cons h1 h2, h => by
    obtain ⟨e, h3, rfl⟩ := Option.map_eq_some_iff.mp h
    cases h1 with
    | dat q => exact .cons q (datsP_dv h2 h3)
  | .ref _ :: _, _, _, _, h => by cases h
  | .tup _ :: _, _, _, _, h => by cases h
theorem datsK_dv {K : PySem.W.Frag} {Hk : Kn} : ∀ {ps : List (PyData × PV)} {vs : List (Key × V)} {ds : List (PyData × PyData)}, PvKv K Hk vs ps → datsK ps = some ds → DvKv K Hk vs ds
  | [], _, ds, .nil, h => by
    cases h
    exact .nil
  | (_, .dat d) :: ps, _, ds, .cons h1 h2, h => by
    obtain ⟨e, h3, rfl⟩ := Option.map_eq_some_iff.mp h
    cases h1 with
    | dat q => exact .cons q (datsK_dv h2 h3)
  | (_, .ref _) :: _, _, _, .cons _ _, h => by cases h
  | (_, .tup _) :: _, _, _, .cons _ _, h => by cases h
/-- what is known for good -/
def PV.kn (M : List MC) : PV → Option PyData
  | .dat d => some d
  | .tup ps => (datsP ps).map .tuple
  | .ref n => match M[n]? with
    | some (.frz d) => some d
    | _ => none
/-- at any depth, as it stands now -/
def rdAllP (f : PV → Option PyData) : List PV → Option (List PyData)
  | [] => some []
  | p :: ps => (f p).bind fun d => (rdAllP f ps).map (d :: ·)
def rdAllK (f : PV → Option PyData) : List (PyData × PV) → Option (List (PyData × PyData))
  | [] => some []
  | p :: ps => (f p.2).bind fun d => (rdAllK f ps).map ((p.1, d) :: ·)
def PV.deep (M : List MC) : Nat → PV → Option PyData
  | _, .dat d => some d
  | 0, _ => none
  | f + 1, .tup ps => (rdAllP (PV.deep M f) ps).map .tuple
  | f + 1, .ref n => match M[n]? with
    | some (.lst ps) => (rdAllP (PV.deep M f) ps).map .list
    | some (.dct es) => (rdAllK (PV.deep M f) es).map .dict
    | some (.frz d) => some d
    | _ => none
def rdv (env : Sl) : Res → Option PyData
  | .dat d => some d
  | .pv p => p.rd (sto env)
  | .new _ => none
  | .slt i => match env[i]? with
    | some (.val d) => some d
    | some (.own c) => some c.dat
    | some (.io _ c) => some c.dat
    | _ => none
/-- how a value is seen now -/
def View (K : PySem.W.Frag) (Hk H : Hp) (v : V) (d : PyData) : Prop := Dv K Hk v d ∨ ∃ a c, v = .ref a ∧ d = Cell.dat c ∧ CellAt K Hk H a c
theorem Rel.stoAt (R : Rel K B env σ Hk H) {n : Nat} {c : MC} (h : (sto env)[n]? = some c) : HasSto env (sto env) ∧ ∃ a, Hk.P n = some a ∧ CellM K Hk H a c ∧ (c.live → Hk a = none) := by
  have hS : HasSto env (sto env) := by
    unfold sto HasSto at *
    split at h
    · assumption
    · simp at h
  exact ⟨hS, (R.sok _ hS).cel n c h⟩
theorem Rel.knP (R : Rel K B env σ Hk H) {p : PV} (h : PvOk K Hk v p) (e : p.kn (sto env) = some d) : Dv K Hk v d := by
  cases h with
  | dat q =>
    cases e
    exact q
  | tup q1 q2 =>
    obtain ⟨ds, h3, rfl⟩ := Option.map_eq_some_iff.mp e
    exact .tup q1 (datsP_dv q2 h3)
  | @ref a n q =>
    unfold PV.kn at e
    simp only at e
    cases hc : (sto env)[n]? with
    | none => simp only [hc] at e; cases e
    | some c =>
      obtain ⟨hS, b, g1, g2, g3⟩ := R.stoAt hc
      rw [q] at g1
      cases g1
      simp only [hc] at e
      cases c with
      | frz d' =>
        cases e
        exact g2
      | _ => cases e
theorem Rel.deepP (R : Rel K B env σ Hk H) {Hl : Hp} (s : Same Hk Hl) (hl : ∀ (n : Nat) c a, (sto env)[n]? = some c → c.live → Hk.P n = some a → Hl a = H a) : ∀ (f : Nat) {p : PV} {v : V} {d : PyData}, PvOk K Hk v p → p.deep (sto env) f = some d → Dv K Hl v d
  | f, .dat d', v, d, h, e => by
    have e : some d' = some d := by cases f <;> exact e
    cases e
    cases h with
    | dat q => exact dv_mono s _ _ q
  | 0, .tup ps, v, d, h, e => by cases e
  | 0, .ref n, v, d, h, e => by cases e
  | f + 1, .tup ps, v, d, h, e => by
    obtain ⟨ds, h3, rfl⟩ := Option.map_eq_some_iff.mp e
    cases h with
    | @tup a vs _ q1 q2 =>
      refine .tup (same_tup s q1) ?_
      clear q1 e
      induction ps generalizing ds vs with
      | nil =>
        cases h3
        cases q2
        exact .nil
      | cons p ps ih =>
        obtain ⟨d1, g1, h3⟩ := Option.bind_eq_some_iff.mp h3
        obtain ⟨ds1, g2, rfl⟩ := Option.map_eq_some_iff.mp h3
        cases q2 with
        | cons w1 w2 => exact .cons (Rel.deepP R s hl f w1 g1) (ih _ g2 w2)
  | f + 1, .ref n, v, d, h, e => by
    cases h with
    | @ref a _ q =>
      unfold PV.deep at e
      cases hc : (sto env)[n]? with
      | none => simp only [hc] at e; cases e
      | some c =>
        obtain ⟨hS, b, g1, g2, g3⟩ := R.stoAt hc
        rw [q] at g1
        cases g1
        simp only [hc] at e
        have hla := hl n c a hc
        clear hc
        cases c with
        | frz d' =>
          cases e
          exact dv_mono s _ _ g2
        | ins C fs => cases e
        | lst ps =>
          have ha := hla trivial q
          obtain ⟨ds, h3, rfl⟩ := Option.map_eq_some_iff.mp e
          obtain ⟨vs, h4, q2⟩ := g2
          refine .lst (by rw [ha]; exact h4) ?_
          clear h4 e g3 hla
          induction ps generalizing ds vs with
          | nil =>
            cases h3
            cases q2
            exact .nil
          | cons p ps ih =>
            obtain ⟨d1, g1, h3⟩ := Option.bind_eq_some_iff.mp h3
            obtain ⟨ds1, g2, rfl⟩ := Option.map_eq_some_iff.mp h3
            cases q2 with
            | cons w1 w2 => exact .cons (Rel.deepP R s hl f w1 g1) (ih _ g2 _ w2)
        | dct ps =>
          have ha := hla trivial q
          obtain ⟨ds, h3, rfl⟩ := Option.map_eq_some_iff.mp e
          obtain ⟨vs, h4, q2⟩ := g2
          refine .dct (.inl (by rw [ha]; exact h4)) ?_
          clear h4 e g3 hla
          induction ps generalizing ds vs with
          | nil =>
            cases h3
            cases q2
            exact .nil
          | cons p ps ih =>
            obtain ⟨d1, g1, h3⟩ := Option.bind_eq_some_iff.mp h3
            obtain ⟨ds1, g2, rfl⟩ := Option.map_eq_some_iff.mp h3
            cases q2 with
            | cons w1 w2 => exact .cons (Rel.deepP R s hl f w1 g1) (ih _ g2 _ w2)
theorem Rel.viewP (R : Rel K B env σ Hk H) {p : PV} (h : PvOk K Hk v p) (e : p.rd (sto env) = some d) : View K Hk H v d := by
  cases h with
  | dat q =>
    cases e
    exact .inl q
  | tup q1 q2 =>
    obtain ⟨ds, h3, rfl⟩ := Option.map_eq_some_iff.mp e
    exact .inl (.tup q1 (datsP_dv q2 h3))
  | @ref a n q =>
    unfold PV.rd at e
    simp only at e
    cases hc : (sto env)[n]? with
    | none => simp only [hc] at e; cases e
    | some c =>
      obtain ⟨hS, b, g1, g2, g3⟩ := R.stoAt hc
      rw [q] at g1
      cases g1
      simp only [hc] at e
      cases c with
      | lst ps =>
        obtain ⟨ds, h3, rfl⟩ := Option.map_eq_some_iff.mp e
        obtain ⟨vs, h4, h5⟩ := g2
        exact .inr ⟨a, .lst ds, rfl, rfl, vs, h4, datsP_dv h5 h3⟩
      | dct ps =>
        obtain ⟨ds, h3, rfl⟩ := Option.map_eq_some_iff.mp e
        obtain ⟨vs, h4, h5⟩ := g2
        exact .inr ⟨a, .dct ds, rfl, rfl, vs, h4, datsK_dv h5 h3⟩
      | ins C fs => cases e
      | frz d' =>
        cases e
        exact .inl g2
theorem Rel.view (R : Rel K B env σ Hk H) (h : RsOk K σ Hk r v) (e : rdv env r = some d) : View K Hk H v d := by
  cases r with
  | pv p => exact R.viewP h e
  | dat d' =>
    cases e
    exact .inl h
  | new c => exact False.elim h
  | slt i =>
    have h : σ[i]? = some (some v) := h
    cases q : env[i]? with
    | none =>
      simp only [rdv, q] at e
      cases e
    | some s =>
      obtain ⟨o, h1, h2⟩ := R.slot i s q
      rw [h] at h1
      cases h1
      simp only [rdv, q] at e
      cases s with
      | no => cases e
      | scr ns => cases e
      | pin a => cases e
      | pv p => cases e
      | sto M => cases e
      | val d' =>
        cases e
        obtain ⟨v', e1, z⟩ := h2
        cases e1
        exact .inl z
      | own c =>
        cases e
        obtain ⟨a, e1, q1, q2, q3⟩ := h2
        cases e1
        exact .inr ⟨a, c, rfl, rfl, q3⟩
      | io k c =>
        cases e
        obtain ⟨a, e1, q1, q2, q3⟩ := h2
        cases e1
        exact .inr ⟨a, c, rfl, rfl, q3⟩
theorem View.dv {Hk : Hp} (h : View K Hk H v d) (e : Same Hk H) : Dv K H v d := by
  rcases h with h | ⟨a, c, rfl, rfl, h1⟩
  · exact dv_mono e d v h
  · obtain ⟨ob, h2, h3⟩ := h1.obj
    exact h3 _ e h2
theorem View.int {Hk : Hp} {i : Int} (h : View K Hk H v (.int i)) : v = .int i := by
  rcases h with h | ⟨a, c, rfl, e, _⟩
  · cases h; rfl
  · cases c <;> cases e
theorem View.str {Hk : Hp} {x : Str} (h : View K Hk H v (.str x)) : v = .str x := by
  rcases h with h | ⟨a, c, rfl, e, _⟩
  · cases h; rfl
  · cases c <;> cases e
theorem View.bool {Hk : Hp} {b : Bool} (h : View K Hk H v (.bool b)) : v = .bl b := by
  rcases h with h | ⟨a, c, rfl, e, _⟩
  · cases h; rfl
  · cases c <;> cases e
theorem View.non {Hk : Hp} (h : View K Hk H v .none) : v = .non := by
  rcases h with h | ⟨a, c, rfl, e, _⟩
  · cases h; rfl
  · cases c <;> cases e
theorem View.list {Hk : Hp} {ds : List PyData} (h : View K Hk H v (.list ds)) (e : Same Hk H) : ∃ a vs, v = .ref a ∧ H a = some (.lst vs) ∧ DvAll K Hk vs ds := by
  rcases h with h | ⟨a, c, rfl, q, h1⟩
  · cases h with
    | lst h1 h2 => exact ⟨_, _, rfl, e _ _ h1, h2⟩
  · cases c with
    | dct _ => cases q
    | lst ds' =>
      cases q
      obtain ⟨vs, h1, h2⟩ := h1
      exact ⟨a, vs, rfl, h1, h2⟩
theorem View.dict {Hk : Hp} {es : List (PyData × PyData)} (h : View K Hk H v (.dict es)) (e : Same Hk H) : ∃ a kvs, v = .ref a ∧ Rd H a (.dK kvs) ∧ DvKv K Hk kvs es := by
  rcases h with h | ⟨a, c, rfl, q, h1⟩
  · cases h with
    | dct h1 h2 => exact ⟨_, _, rfl, same_rd e h1, h2⟩
  · cases c with
    | lst _ => cases q
    | dct es' =>
      cases q
      obtain ⟨vs, h1, h2⟩ := h1
      exact ⟨a, vs, rfl, .inl h1, h2⟩
theorem View.tup {Hk : Hp} {ds : List PyData} (h : View K Hk H v (.tuple ds)) (e : Same Hk H) : ∃ a vs, v = .ref a ∧ SqT K H a vs ∧ DvAll K Hk vs ds := by
  rcases h with h | ⟨a, c, rfl, q, h1⟩
  · cases h with
    | tup h1 h2 => exact ⟨_, _, rfl, same_tup e h1, h2⟩
  · cases c <;> cases q
end
theorem _root_.L2.PE.imp {X : Cx} {e : Expr} {t t' : TE} (h : PE X e t) (k : ∀ σ H Q, t' σ H Q → t σ H Q) : PE X e t' := ⟨fun pins s σ H Q I q => h.run pins s σ H Q I (k σ H Q q)⟩
theorem _root_.L2.PT.imp {X : Cx} {e : Expr} {t t' : TT} (h : PT X e t) (k : ∀ σ H Q, t' σ H Q → t σ H Q) : PT X e t' := ⟨fun pins s σ H Q I q => h.run pins s σ H Q I (k σ H Q q)⟩
theorem _root_.L2.PW.imp {X : Cx} {e : Expr} {t t' : TT} (h : PW X e t) (k : ∀ σ H Q, t' σ H Q → t σ H Q) : PW X e t' := ⟨fun wh pins s σ H Q I q => h.run wh pins s σ H Q I (k σ H Q q)⟩
theorem _root_.L2.PA.imp {X : Cx} {e : List Expr} {t t' : TA} (h : PA X e t) (k : ∀ σ H Q, t' σ H Q → t σ H Q) : PA X e t' := ⟨fun pos pins s σ H Q I q => h.run pos pins s σ H Q I (k σ H Q q)⟩
abbrev VE (X : Cx) (e : Expr) (m : ME) : Prop := PE X e (tE X.K m)
abbrev VT (X : Cx) (e : Expr) (m : MT) : Prop := PT X e (tT X.K m)
abbrev VW (X : Cx) (e : Expr) (m : MT) : Prop := PW X e (tT X.K m)
abbrev VA (X : Cx) (es : List Expr) (m : MA) : Prop := PA X es (tA X.K m)
/-! ### names, constants -/
def mName (i : Nat) : ME := fun env => match env[i]? with
  | some (.val d) => some (.dat d, env)
  | some (.own _) => some (.slt i, env)
  | some (.io _ _) => some (.slt i, env)
  | some (.scr _) => some (.slt i, env)
  | some (.pv p) => some (.pv p, env)
  | _ => none
def mC (d : PyData) : ME := fun env => some (.dat d, env)
section
variable {X : Cx} {K : PySem.W.Frag}
theorem name_run {i : Nat} {σ : St} {H : Hp} {Q : VK} (h : tE K (mName i) σ H Q) : tVar i σ H Q := by
  obtain ⟨B, env, Hk, r, env', R, hm, k⟩ := h
  unfold mName at hm
  cases q : env[i]? with
  | none =>
    rw [q] at hm
    cases hm
  | some s =>
    rw [q] at hm
    obtain ⟨o, h1, h2⟩ := R.slot i s q
    cases s with
    | no => cases hm
    | val d =>
      cases hm
      obtain ⟨v, rfl, z⟩ := h2
      exact ⟨v, h1, k v Hk H R (.refl _) z⟩
    | own c =>
      cases hm
      obtain ⟨a, rfl, z⟩ := h2
      exact ⟨_, h1, k _ Hk H R (.refl _) h1⟩
    | io k c =>
      cases hm
      obtain ⟨a, rfl, z⟩ := h2
      exact ⟨_, h1, k _ Hk H R (.refl _) h1⟩
    | scr c =>
      cases hm
      obtain ⟨a, rfl, z⟩ := h2
      exact ⟨_, h1, k _ Hk H R (.refl _) h1⟩
    | pv p =>
      cases hm
      obtain ⟨v, rfl, z⟩ := h2
      exact ⟨v, h1, k v Hk H R (.refl _) z⟩
    | sto M => cases hm
    | pin a => cases hm
theorem ve_name (i : Nat) {x : Str} {pos : Pos} (hN : X.N[i]? = some x := by rfl) (hv : Vis X.env.scope x := by first | exact Or.inl rfl | exact Or.inr (Or.inl rfl) | exact Or.inr (Or.inr rfl)) (hd : (x == ("__debug__" : Str)) = false := by decide)
    (hcd : (x == ("__classdict__" : Str)) = false := by decide) : VE X (.Name x pos) (mName i) := (pe_var hN hv hd hcd).imp fun _ _ _ => name_run
theorem c_run {v : V} {d : PyData} (hd : ∀ Hk, Dv K Hk v d) {σ : St} {H : Hp} {Q : VK} (h : tE K (mC d) σ H Q) : tC v σ H Q := by
  obtain ⟨B, env, Hk, r, env', R, hm, k⟩ := h
  cases hm
  exact k v Hk H R (.refl _) (hd Hk)
theorem ve_int {i j pos} : VE X (.Constant (.int i) j pos) (mC (.int i)) := pe_int.imp fun _ _ _ => c_run fun _ => .int i
theorem ve_bl {b j pos} : VE X (.Constant (.bool b) j pos) (mC (.bool b)) := pe_bl.imp fun _ _ _ => c_run fun _ => .bl b
theorem ve_non {j pos} : VE X (.Constant .none j pos) (mC .none) := pe_non.imp fun _ _ _ => c_run fun _ => .non
theorem ve_str {x j pos} : VE X (.Constant (.str x) j pos) (mC (.str x)) := pe_str.imp fun _ _ _ => c_run fun _ => .str x
theorem ve_glob {x : Str} {v : V} {u : Value} {pos : Pos} {d : PyData} (hg : Gl X x) (hm : X.mg x = some u) (r : RelV v u) (hv : ∀ Hk, Dv X.K Hk v d) (hd : (x == ("__debug__" : Str)) = false := by decide) : VE X (.Name x pos) (mC d) :=
  (pe_glob hg hm r hd).imp fun _ _ _ => c_run hv
end
/-! ### freezing -/
def frz : Res × Sl → Option (Res × Sl)
  | (.dat d, e) => some (.dat d, e)
  | (.new c, e) => some (.dat c.dat, e)
  | (.pv (.dat d), e) => some (.dat d, e)
  | (.pv _, _) => none
  | (.slt i, e) => match e[i]? with
    | some (.val d) => some (.dat d, e)
    | some (.own c) => some (.dat c.dat, e.set i (.val c.dat))
    | _ => none
def mFrz (m : ME) : ME := fun env => (m env).bind frz
section
variable {X : Cx} {K : PySem.W.Frag}
theorem Rel.frz {B : Fb} {env env' : Sl} {σ : St} {Hk : Kn} {H : Hp} {r r' : Res} {v : V} (R : Rel K B env σ Hk H) (o : ResOk K B env σ Hk H r v) (h : Cm.frz (r, env) = some (r', env')) :
    ∃ Hk' : Kn, ∃ d, r' = .dat d ∧ Rel K B env' σ Hk' H ∧ KSame Hk Hk' ∧ Dv K Hk' v d := by
  cases r with
  | dat d =>
    cases h
    exact ⟨Hk, d, rfl, R, .refl _, o⟩
  | new c =>
    cases h
    obtain ⟨Hk', R', s, q⟩ := R.stab o
    exact ⟨Hk', _, rfl, R', s, q⟩
  | pv p =>
    cases p with
    | dat d =>
      cases h
      cases o with
      | dat q => exact ⟨Hk, d, rfl, R, .refl _, q⟩
    | ref n => cases h
    | tup ps => cases h
  | slt i =>
    unfold Cm.frz at h
    have o : σ[i]? = some (some v) := o
    cases q : env[i]? with
    | none => simp only [q] at h; cases h
    | some s =>
      simp only [q] at h
      cases s with
      | no => cases h
      | scr ns => cases h
      | pin a => cases h
      | pv p => cases h
      | sto M => cases h
      | io k c => cases h
      | val d =>
        cases h
        obtain ⟨o', h1, v', e1, z⟩ := R.slot i _ q
        rw [o] at h1
        cases h1
        cases e1
        exact ⟨Hk, d, rfl, R, .refl _, z⟩
      | own c =>
        cases h
        obtain ⟨a, Hk', h1, R', s, z⟩ := R.freezeC q
        rw [o] at h1
        cases h1
        exact ⟨Hk', _, rfl, R', s, z⟩
theorem frz_run {m : ME} {σ : St} {H : Hp} {Q : VK} (h : tE K (mFrz m) σ H Q) : tE K m σ H Q := by
  obtain ⟨B, env, Hk, r, env', R, hm, k⟩ := h
  obtain ⟨⟨r1, e1⟩, h1, h2⟩ := Option.bind_eq_some_iff.mp hm
  refine ⟨B, env, Hk, r1, e1, R, h1, fun v Hk1 H1 R1 s1 o1 => ?_⟩
  obtain ⟨Hk', d, rfl, R', s', z⟩ := R1.frz o1 h2
  exact k v Hk' H1 R' (s1.trans s') z
theorem ve_frz {e : Expr} {m : ME} (h : VE X e m) : VE X e (mFrz m) := h.imp fun _ _ _ => frz_run
end
/-! ### two operands -/
def OpD (K : PySem.W.Frag) (r : R2) (g : PyData → PyData → Option Res) : Prop := ∀ (Hk H : Hp) (x y : V) (dx dy : PyData) (res : Res) (Q : VK), Same Hk H → View K Hk H x dx → View K Hk H y dy → g dx dy = some res → (∀ v H', Out K Hk H res v H' → Q v H') → r x y H Q
def mOp (g : PyData → PyData → Option Res) (ma mb : ME) : ME := fun env => (ma env).bind fun p => (mb p.2).bind fun q => (rdv q.2 (stab p.1)).bind fun dx => (rdv q.2 (stab q.1)).bind fun dy => (g dx dy).map fun r => (r, q.2)
section
variable {X : Cx} {K : PySem.W.Frag} {g g' : PyData → PyData → Option Res} {r r' : R2} {ma mb mc : ME} {a b c : Expr} {pos : Pos}
theorem op_run (hg : OpD K r g) {σ : St} {H : Hp} {Q : VK} (h : tE K (mOp g ma mb) σ H Q) : tOp r (tE K ma) (tE K mb) σ H Q := by
  obtain ⟨B, env, Hk, res, env', R, hm, k⟩ := h
  obtain ⟨⟨x, e1⟩, h1, hm⟩ := Option.bind_eq_some_iff.mp hm
  obtain ⟨⟨y, e2⟩, h2, hm⟩ := Option.bind_eq_some_iff.mp hm
  obtain ⟨dx, h3, hm⟩ := Option.bind_eq_some_iff.mp hm
  obtain ⟨dy, h4, hm⟩ := Option.bind_eq_some_iff.mp hm
  obtain ⟨res', h5, hm⟩ := Option.map_eq_some_iff.mp hm
  cases hm
  refine ⟨B, env, Hk, x, e1, R, h1, fun v Hk1 H1 R1 s1 o1 => ?_⟩
  obtain ⟨Hk1', R1', s1', o1'⟩ := R1.stab o1
  refine ⟨B, e1, Hk1', y, e2, R1', h2, fun w Hk2 H2 R2 s2 o2 => ?_⟩
  obtain ⟨Hk2', R2', s2', o2'⟩ := R2.stab o2
  refine hg Hk2' H2 v w dx dy res Q R2'.ex (R2'.view ((o1'.mono s2).mono s2') h3) (R2'.view o2' h4) h5 fun z H3 out => ?_
  obtain ⟨Hk3, R3, s3, o3⟩ := R2'.out out
  exact k z Hk3 H3 R3 ((((s1.trans s1').trans s2).trans s2').trans s3) o3
theorem ve_op {op : Operator} (ho : OpR X (binaryOp op) r) (hg : OpD X.K r g) (ha : VE X a ma) (hb : VE X b mb) : VE X (.BinOp a op b pos) (mOp g ma mb) := (pe_op ho ha hb).imp fun _ _ _ => op_run hg
theorem ve_cmp {op : CmpOp} (ho : OpR X (compareOp op) r) (hg : OpD X.K r g) (ha : VE X a ma) (hb : VE X b mb) (hm : behindInMarks op b = false) : VE X (.Compare a [op] [b] pos) (mOp g ma mb) := (pe_cmpR ho ha hb hm).imp fun _ _ _ => op_run hg
theorem ve_ix (hi : IxR X r) (hg : OpD X.K r g) (ha : VE X a ma) (hb : VE X b mb) (hs : PlainIx b) : VE X (.Subscript a b pos) (mOp g ma mb) := (pe_ix hi ha hb hs).imp fun _ _ _ => op_run hg
def mTest (m : ME) : MT := fun env => (m env).bind fun p => match p.1 with
  | .dat (.bool b) => some (b, p.2)
  | _ => none
theorem test_run {m : ME} {σ : St} {H : Hp} {Q : Bool → Hp → Prop} (h : tT K (mTest m) σ H Q) : tE K m σ H fun x H' => ∃ k, x = .bl k ∧ Q k H' := by
  obtain ⟨B, env, Hk, b, env', R, hm, k⟩ := h
  obtain ⟨⟨x, e1⟩, h1, hm⟩ := Option.bind_eq_some_iff.mp hm
  refine ⟨B, env, Hk, x, e1, R, h1, fun v Hk1 H1 R1 s1 o1 => ?_⟩
  cases x with
  | new c => cases hm
  | slt i => cases hm
  | pv p => cases hm
  | dat d =>
    cases d with
    | bool b' =>
      cases hm
      cases o1
      exact ⟨b, rfl, k Hk1 H1 R1 s1⟩
    | _ => cases hm
theorem vt_cmp {op : CmpOp} (ho : OpR X (compareOp op) r) (hg : OpD X.K r g) (ha : VE X a ma) (hb : VE X b mb) (hm : behindInMarks op b = false) : VT X (.Compare a [op] [b] pos) (mTest (mOp g ma mb)) :=
  (pt_cmpR ho ha hb hm).imp fun _ _ _ h => op_run hg (test_run h)
theorem vt_val {m : ME} (h : VE X a m) (he : ∀ whole, isTrue a X.env whole = (do let v ← whole; standAt a.pos; holding [v] (truthy v)) := by intro _; rfl) : VT X a (mTest m) :=
  (pt_val h he).imp fun _ _ _ h => test_run h
/-- a op b op' c -/
def mChain (g g' : PyData → PyData → Option Res) (ma mb mc : ME) : ME := fun env => (ma env).bind fun p => (mb p.2).bind fun q => (rdv q.2 (stab p.1)).bind fun dx => (rdv q.2 (stab q.1)).bind fun dy => (g dx dy).bind fun r => match r with
  | .dat (.bool true) => (mc q.2).bind fun t => (rdv t.2 (stab q.1)).bind fun dy' => (rdv t.2 (stab t.1)).bind fun dz => (g' dy' dz).map fun r => (r, t.2)
  | .dat (.bool false) => some (.dat (.bool false), q.2)
  | _ => none
theorem chain_run (hg : OpD K r g) (hg' : OpD K r' g') {σ : St} {H : Hp} {Q : VK} (h : tE K (mChain g g' ma mb mc) σ H Q) : tChain r r' (tE K ma) (tE K mb) (tE K mc) σ H Q := by
  obtain ⟨B, env, Hk, res, env', R, hm, k⟩ := h
  obtain ⟨⟨x, e1⟩, h1, hm⟩ := Option.bind_eq_some_iff.mp hm
  obtain ⟨⟨y, e2⟩, h2, hm⟩ := Option.bind_eq_some_iff.mp hm
  obtain ⟨dx, h3, hm⟩ := Option.bind_eq_some_iff.mp hm
  obtain ⟨dy, h4, hm⟩ := Option.bind_eq_some_iff.mp hm
  obtain ⟨res', h5, hm⟩ := Option.bind_eq_some_iff.mp hm
  refine ⟨B, env, Hk, x, e1, R, h1, fun v Hk1 H1 R1 s1 o1 => ?_⟩
  obtain ⟨Hk1', R1', s1', o1'⟩ := R1.stab o1
  refine ⟨B, e1, Hk1', y, e2, R1', h2, fun w Hk2 H2 R2 s2 o2 => ?_⟩
  obtain ⟨Hk2', R2', s2', o2'⟩ := R2.stab o2
  refine hg Hk2' H2 v w dx dy res' _ R2'.ex (R2'.view ((o1'.mono s2).mono s2') h3) (R2'.view o2' h4) h5 fun z H3 out => ?_
  obtain ⟨Hk3, R3, s3, o3⟩ := R2'.out out
  have sm := (((s1.trans s1').trans s2).trans s2').trans s3
  cases res' with
  | new c => cases hm
  | slt i => cases hm
  | pv p => cases hm
  | dat d =>
    cases d with
    | bool bb =>
      cases o3
      cases bb with
      | false =>
        cases hm
        exact ⟨false, rfl, k _ Hk3 H3 R3 sm (.bl false)⟩
      | true =>
        refine ⟨true, rfl, ?_⟩
        show tE K mc σ H3 _
        obtain ⟨⟨t, e3⟩, h6, hm⟩ := Option.bind_eq_some_iff.mp hm
        obtain ⟨dy', h7, hm⟩ := Option.bind_eq_some_iff.mp hm
        obtain ⟨dz, h8, hm⟩ := Option.bind_eq_some_iff.mp hm
        obtain ⟨res2, h9, hm⟩ := Option.map_eq_some_iff.mp hm
        cases hm
        refine ⟨B, e2, Hk3, t, e3, R3, h6, fun u Hk4 H4 R4 s4 o4 => ?_⟩
        obtain ⟨Hk4', R4', s4', o4'⟩ := R4.stab o4
        refine hg' Hk4' H4 w u dy' dz res Q R4'.ex (R4'.view (((o2'.mono s3).mono s4).mono s4') h7) (R4'.view o4' h8) h9 fun z H5 out => ?_
        obtain ⟨Hk5, R5, s5, o5⟩ := R4'.out out
        exact k z Hk5 H5 R5 (((sm.trans s4).trans s4').trans s5) o5
    | _ => cases hm
theorem ve_chain {op op' : CmpOp} (ho : OpR X (compareOp op) r) (hg : OpD X.K r g) (ho' : OpR X (compareOp op') r') (hg' : OpD X.K r' g') (ha : VE X a ma) (hb : VE X b mb) (hc : VE X c mc)
    (hm : lastMarks [op, op'] [b, c] = false := by with_unfolding_all rfl) : VE X (.Compare a [op, op'] [b, c] pos) (mChain g g' ma mb mc) := (pe_chain ho ho' ha hb hc hm).imp fun _ _ _ => chain_run hg hg'
theorem vt_chain {op op' : CmpOp} (ho : OpR X (compareOp op) r) (hg : OpD X.K r g) (ho' : OpR X (compareOp op') r') (hg' : OpD X.K r' g') (ha : VE X a ma) (hb : VE X b mb) (hc : VE X c mc)
    (hm : lastMarks [op, op'] [b, c] = false := by with_unfolding_all rfl) : VT X (.Compare a [op, op'] [b, c] pos) (mTest (mChain g g' ma mb mc)) := (pt_chain ho ho' ha hb hc hm).imp fun _ _ _ h => chain_run hg hg' (test_run h)
end
/-! ### one operand -/
def UnD (K : PySem.W.Frag) (r : V → Hp → VK → Prop) (g : PyData → Option Res) : Prop := ∀ (Hk H : Hp) (x : V) (dx : PyData) (res : Res) (Q : VK), Same Hk H → View K Hk H x dx → g dx = some res → (∀ v H', Out K Hk H res v H' → Q v H') → r x H Q
def mUn (g : PyData → Option Res) (ma : ME) : ME := fun env => (ma env).bind fun p => (rdv p.2 (stab p.1)).bind fun dx => (g dx).map fun r => (r, p.2)
section
variable {X : Cx} {K : PySem.W.Frag} {g : PyData → Option Res} {r : V → Hp → VK → Prop} {ma mb : ME} {t u : MT} {a b c : Expr} {rest : List Expr} {pos : Pos}
theorem un_run (hg : UnD K r g) {σ : St} {H : Hp} {Q : VK} (h : tE K (mUn g ma) σ H Q) : tUn r (tE K ma) σ H Q := by
  obtain ⟨B, env, Hk, res, env', R, hm, k⟩ := h
  obtain ⟨⟨x, e1⟩, h1, hm⟩ := Option.bind_eq_some_iff.mp hm
  obtain ⟨dx, h3, hm⟩ := Option.bind_eq_some_iff.mp hm
  obtain ⟨res', h5, hm⟩ := Option.map_eq_some_iff.mp hm
  cases hm
  refine ⟨B, env, Hk, x, e1, R, h1, fun v Hk1 H1 R1 s1 o1 => ?_⟩
  obtain ⟨Hk1', R1', s1', o1'⟩ := R1.stab o1
  refine hg Hk1' H1 v dx res Q R1'.ex (R1'.view o1' h3) h5 fun z H3 out => ?_
  obtain ⟨Hk3, R3, s3, o3⟩ := R1'.out out
  exact k z Hk3 H3 R3 ((s1.trans s1').trans s3) o3
theorem ve_un {op : UnaryOp} (ho : UnR X (unaryOp op) r) (hg : UnD X.K r g) (ha : VE X a ma) : VE X (.UnaryOp op a pos) (mUn g ma) := (pe_un ho ha).imp fun _ _ _ => un_run hg
/-! ### tests -/
def mAnd (t u : MT) : MT := fun env => (t env).bind fun p => if p.1 = true then u p.2 else some (false, p.2)
def mOr (t u : MT) : MT := fun env => (t env).bind fun p => if p.1 = true then some (true, p.2) else u p.2
def mNot (t : MT) : MT := fun env => (t env).map fun p => (!p.1, p.2)
theorem and_run {σ : St} {H : Hp} {Q : Bool → Hp → Prop} (h : tT K (mAnd t u) σ H Q) : tAnd (tT K t) (tT K u) σ H Q := by
  obtain ⟨B, env, Hk, b, env', R, hm, k⟩ := h
  obtain ⟨⟨c, e1⟩, h1, hm⟩ := Option.bind_eq_some_iff.mp hm
  refine ⟨B, env, Hk, c, e1, R, h1, fun Hk1 H1 R1 s1 => ?_⟩
  cases c with
  | true => exact ⟨B, e1, Hk1, b, env', R1, hm, fun Hk2 H2 R2 s2 => k Hk2 H2 R2 (s1.trans s2)⟩
  | false =>
    cases hm
    exact k Hk1 H1 R1 s1
theorem or_run {σ : St} {H : Hp} {Q : Bool → Hp → Prop} (h : tT K (mOr t u) σ H Q) : tOr (tT K t) (tT K u) σ H Q := by
  obtain ⟨B, env, Hk, b, env', R, hm, k⟩ := h
  obtain ⟨⟨c, e1⟩, h1, hm⟩ := Option.bind_eq_some_iff.mp hm
  refine ⟨B, env, Hk, c, e1, R, h1, fun Hk1 H1 R1 s1 => ?_⟩
  cases c with
  | false => exact ⟨B, e1, Hk1, b, env', R1, hm, fun Hk2 H2 R2 s2 => k Hk2 H2 R2 (s1.trans s2)⟩
  | true =>
    cases hm
    exact k Hk1 H1 R1 s1
theorem not_run {σ : St} {H : Hp} {Q : Bool → Hp → Prop} (h : tT K (mNot t) σ H Q) : tNot (tT K t) σ H Q := by
  obtain ⟨B, env, Hk, b, env', R, hm, k⟩ := h
  obtain ⟨⟨c, e1⟩, h1, hm⟩ := Option.map_eq_some_iff.mp hm
  cases hm
  exact ⟨B, env, Hk, c, e1, R, h1, k⟩
theorem vw_and1 (ha : VT X a t) : VW X (.BoolOp .And [a] pos) t := pw_and1 ha
theorem vw_or1 (ha : VT X a t) : VW X (.BoolOp .Or [a] pos) t := pw_or1 ha
theorem vw_and (ha : VT X a t) (hb : VW X (.BoolOp .And (b :: rest) pos) u) : VW X (.BoolOp .And (a :: b :: rest) pos) (mAnd t u) := (pw_and ha hb).imp fun _ _ _ => and_run
theorem vw_or (ha : VT X a t) (hb : VW X (.BoolOp .Or (b :: rest) pos) u) : VW X (.BoolOp .Or (a :: b :: rest) pos) (mOr t u) := (pw_or ha hb).imp fun _ _ _ => or_run
theorem vt_w {e : Expr} (h : VW X e t) : VT X e t := PW.pt h
theorem vt_not (ha : VT X a t) : VT X (.UnaryOp .Not a pos) (mNot t) := (pt_not ha).imp fun _ _ _ => not_run
/-! ### the same as values -/
def mAndV (ma mb : ME) : ME := fun env => (ma env).bind fun p => match p.1 with
  | .dat (.bool true) => mb p.2
  | .dat (.bool false) => some (.dat (.bool false), p.2)
  | _ => none
def mOrV (ma mb : ME) : ME := fun env => (ma env).bind fun p => match p.1 with
  | .dat (.bool false) => mb p.2
  | .dat (.bool true) => some (.dat (.bool true), p.2)
  | _ => none
def mNotV (ma : ME) : ME := fun env => (ma env).bind fun p => match p.1 with
  | .dat (.bool b) => some (.dat (.bool (!b)), p.2)
  | _ => none
theorem andV_run {σ : St} {H : Hp} {Q : VK} (h : tE K (mAndV ma mb) σ H Q) : tAndV (tE K ma) (tE K mb) σ H Q := by
  obtain ⟨B, env, Hk, res, env', R, hm, k⟩ := h
  obtain ⟨⟨x, e1⟩, h1, hm⟩ := Option.bind_eq_some_iff.mp hm
  refine ⟨B, env, Hk, x, e1, R, h1, fun v Hk1 H1 R1 s1 o1 => ?_⟩
  cases x with
  | new c => cases hm
  | slt i => cases hm
  | pv p => cases hm
  | dat d =>
    cases d with
    | bool b =>
      cases o1
      refine ⟨b, rfl, ?_⟩
      cases b with
      | true => exact ⟨B, e1, Hk1, res, env', R1, hm, fun v Hk2 H2 R2 s2 o2 => k v Hk2 H2 R2 (s1.trans s2) o2⟩
      | false =>
        cases hm
        exact k _ Hk1 H1 R1 s1 (.bl false)
    | _ => cases hm
theorem orV_run {σ : St} {H : Hp} {Q : VK} (h : tE K (mOrV ma mb) σ H Q) : tOrV (tE K ma) (tE K mb) σ H Q := by
  obtain ⟨B, env, Hk, res, env', R, hm, k⟩ := h
  obtain ⟨⟨x, e1⟩, h1, hm⟩ := Option.bind_eq_some_iff.mp hm
  refine ⟨B, env, Hk, x, e1, R, h1, fun v Hk1 H1 R1 s1 o1 => ?_⟩
  cases x with
  | new c => cases hm
  | slt i => cases hm
  | pv p => cases hm
  | dat d =>
    cases d with
    | bool b =>
      cases o1
      refine ⟨b, rfl, ?_⟩
      cases b with
      | false => exact ⟨B, e1, Hk1, res, env', R1, hm, fun v Hk2 H2 R2 s2 o2 => k v Hk2 H2 R2 (s1.trans s2) o2⟩
      | true =>
        cases hm
        exact k _ Hk1 H1 R1 s1 (.bl true)
    | _ => cases hm
theorem notV_run {σ : St} {H : Hp} {Q : VK} (h : tE K (mNotV ma) σ H Q) : tNotV (tE K ma) σ H Q := by
  obtain ⟨B, env, Hk, res, env', R, hm, k⟩ := h
  obtain ⟨⟨x, e1⟩, h1, hm⟩ := Option.bind_eq_some_iff.mp hm
  refine ⟨B, env, Hk, x, e1, R, h1, fun v Hk1 H1 R1 s1 o1 => ?_⟩
  cases x with
  | new c => cases hm
  | slt i => cases hm
  | pv p => cases hm
  | dat d =>
    cases d with
    | bool b =>
      cases o1
      cases hm
      exact ⟨b, rfl, k _ Hk1 H1 R1 s1 (.bl _)⟩
    | _ => cases hm
theorem ve_one {op} (h : VE X a ma) : VE X (.BoolOp op [a] pos) ma := pe_one h
theorem ve_and (ha : VE X a ma) (hb : VE X (.BoolOp .And (b :: rest) pos) mb) : VE X (.BoolOp .And (a :: b :: rest) pos) (mAndV ma mb) := (pe_and ha hb).imp fun _ _ _ => andV_run
theorem ve_or (ha : VE X a ma) (hb : VE X (.BoolOp .Or (b :: rest) pos) mb) : VE X (.BoolOp .Or (a :: b :: rest) pos) (mOrV ma mb) := (pe_or ha hb).imp fun _ _ _ => orV_run
theorem ve_not (ha : VE X a ma) : VE X (.UnaryOp .Not a pos) (mNotV ma) := (pe_not ha).imp fun _ _ _ => notV_run
def mIf (t : MT) (ma mb : ME) : ME := fun env => (t env).bind fun p => if p.1 = true then ma p.2 else mb p.2
theorem if_run {σ : St} {H : Hp} {Q : VK} (h : tE K (mIf t ma mb) σ H Q) : tIf (tT K t) (tE K ma) (tE K mb) σ H Q := by
  obtain ⟨B, env, Hk, res, env', R, hm, k⟩ := h
  obtain ⟨⟨c, e1⟩, h1, hm⟩ := Option.bind_eq_some_iff.mp hm
  refine ⟨B, env, Hk, c, e1, R, h1, fun Hk1 H1 R1 s1 => ?_⟩
  cases c with
  | true => exact ⟨B, e1, Hk1, res, env', R1, hm, fun v Hk2 H2 R2 s2 o2 => k v Hk2 H2 R2 (s1.trans s2) o2⟩
  | false => exact ⟨B, e1, Hk1, res, env', R1, hm, fun v Hk2 H2 R2 s2 o2 => k v Hk2 H2 R2 (s1.trans s2) o2⟩
theorem ve_if (hc : VT X c t) (ha : VE X a ma) (hb : VE X b mb) : VE X (.IfExp c a b pos) (mIf t ma mb) := (pe_ifExp hc ha hb).imp fun _ _ _ => if_run
end
/-! ### arguments, displays -/
def mNil : MA := fun env => some ([], env)
def mCons (m : ME) (ms : MA) : MA := fun env => (m env).bind fun p => (ms p.2).map fun q => (stab p.1 :: q.1, q.2)
section
variable {X : Cx} {K : PySem.W.Frag} {m : ME} {ms : MA} {e : Expr} {es : List Expr} {pos : Pos}
theorem nil_run {σ : St} {H : Hp} {Q : List V → Hp → Prop} (h : tA K mNil σ H Q) : tNil σ H Q := by
  obtain ⟨B, env, Hk, rs, env', R, hm, k⟩ := h
  cases hm
  exact k [] Hk H R (.refl _) .nil
theorem cons_run {σ : St} {H : Hp} {Q : List V → Hp → Prop} (h : tA K (mCons m ms) σ H Q) : tCons (tE K m) (tA K ms) σ H Q := by
  obtain ⟨B, env, Hk, rs, env', R, hm, k⟩ := h
  obtain ⟨⟨x, e1⟩, h1, hm⟩ := Option.bind_eq_some_iff.mp hm
  obtain ⟨⟨xs, e2⟩, h2, hm⟩ := Option.map_eq_some_iff.mp hm
  cases hm
  refine ⟨B, env, Hk, x, e1, R, h1, fun v Hk1 H1 R1 s1 o1 => ?_⟩
  obtain ⟨Hk1', R1', s1', o1'⟩ := R1.stab o1
  refine ⟨B, e1, Hk1', xs, e2, R1', h2, fun vs Hk2 H2 R2 s2 o2 => ?_⟩
  exact k _ Hk2 H2 R2 ((s1.trans s1').trans s2) (.cons (o1'.mono s2) o2)
theorem va_nil : VA X [] mNil := pa_nil.imp fun _ _ _ => nil_run
theorem va_cons (ha : VE X e m) (hr : VA X es ms) (hs : starEach (e :: es) X.env = (false, eval e X.env) :: starEach es X.env := by rfl) : VA X (e :: es) (mCons m ms) := (pa_cons ha hr hs).imp fun _ _ _ => cons_run
/-- all of them data -/
def dats : List Res → Option (List PyData)
  | [] => some []
  | .dat d :: rs => (dats rs).map (d :: ·)
  | _ :: _ => none
theorem RsAll.dats {σ : St} {Hk : Kn} : ∀ {rs : List Res} {vs : List V} {ds : List PyData}, RsAll K σ Hk rs vs → Cm.dats rs = some ds → DvAll K Hk vs ds
  | _, _, _, .nil, h => by
    cases h
    exact .nil
  | .dat d :: rs, _, ds, .cons h1 h2, h => by
    obtain ⟨ds', e1, e2⟩ := Option.map_eq_some_iff.mp h
    subst e2
    exact .cons h1 (RsAll.dats h2 e1)
  | .slt i :: rs, _, ds, .cons h1 h2, h => by cases h
  | .new c :: rs, _, ds, .cons h1 h2, h => by cases h
def mLst (ms : MA) : ME := fun env => (ms env).bind fun p => (dats p.1).bind fun ds => if ds.length ≤ 100000 then some (.new (.lst ds), p.2) else none
def mTup (ms : MA) : ME := fun env => (ms env).bind fun p => (dats p.1).bind fun ds => if ds.length ≤ 100000 then some (.dat (.tuple ds), p.2) else none
theorem sz_of {n : Nat} (h : n ≤ 100000) : n ≤ sizeLine := Nat.le_trans h (by decide)
theorem lst_run {σ : St} {H : Hp} {Q : VK} (h : tE K (mLst ms) σ H Q) : tLst (tA K ms) σ H Q := by
  obtain ⟨B, env, Hk, res, env', R, hm, k⟩ := h
  obtain ⟨⟨rs, e1⟩, h1, hm⟩ := Option.bind_eq_some_iff.mp hm
  obtain ⟨ds, h2, hm⟩ := Option.bind_eq_some_iff.mp hm
  by_cases hl : ds.length ≤ 100000
  · rw [if_pos hl] at hm
    cases hm
    refine ⟨B, env, Hk, rs, e1, R, h1, fun vs Hk1 H1 R1 s1 o1 => ?_⟩
    have da := o1.dats h2
    refine ⟨by rw [da.len]; exact sz_of hl, fun p hp => ?_⟩
    obtain ⟨Hk2, R2, s2, o2⟩ := R1.out (r := .new (.lst ds)) ⟨p, vs, rfl, hp, rfl, da⟩
    exact k _ Hk2 _ R2 (s1.trans s2) o2
  · rw [if_neg hl] at hm
    cases hm
theorem tup_run {σ : St} {H : Hp} {Q : VK} (h : tE K (mTup ms) σ H Q) : tTup (tA K ms) σ H Q := by
  obtain ⟨B, env, Hk, res, env', R, hm, k⟩ := h
  obtain ⟨⟨rs, e1⟩, h1, hm⟩ := Option.bind_eq_some_iff.mp hm
  obtain ⟨ds, h2, hm⟩ := Option.bind_eq_some_iff.mp hm
  by_cases hl : ds.length ≤ 100000
  · rw [if_pos hl] at hm
    cases hm
    refine ⟨B, env, Hk, rs, e1, R, h1, fun vs Hk1 H1 R1 s1 o1 => ?_⟩
    have da := o1.dats h2
    refine ⟨by rw [da.len]; exact sz_of hl, fun p hp => ?_⟩
    obtain ⟨Hk2, R2, s2, o2⟩ := R1.out (r := .dat (.tuple ds)) (.inr ⟨p, vs, ds, rfl, rfl, hp, rfl, da⟩)
    exact k _ Hk2 _ R2 (s1.trans s2) o2
  · rw [if_neg hl] at hm
    cases hm
theorem ve_lst (h : VA X es ms) : VE X (.List es pos) (mLst ms) := (pe_lst h).imp fun _ _ _ => lst_run
theorem ve_tup {x1} (h : VA X es ms) : VE X (.Tuple es x1 pos) (mTup ms) := (pe_tup h).imp fun _ _ _ => tup_run
end
/-! ### built-ins -/
inductive ViewAll (K : PySem.W.Frag) (Hk H : Hp) : List V → List PyData → Prop
  | nil : ViewAll K Hk H [] []
  | cons {v : V} {vs : List V} {d : PyData} {ds : List PyData} : View K Hk H v d → ViewAll K Hk H vs ds → ViewAll K Hk H (v :: vs) (d :: ds)
def rdAll (env : Sl) : List Res → Option (List PyData)
  | [] => some []
  | r :: rs => (rdv env r).bind fun d => (rdAll env rs).map (d :: ·)
section
variable {X : Cx} {K : PySem.W.Frag} {m : ME} {ms : MA} {e o : Expr} {es : List Expr} {pos : Pos}
theorem Rel.views {B : Fb} {env : Sl} {σ : St} {Hk : Kn} {H : Hp} (R : Rel K B env σ Hk H) : ∀ {rs : List Res} {vs : List V} {ds : List PyData}, RsAll K σ Hk rs vs → rdAll env rs = some ds → ViewAll K Hk H vs ds
  | _, _, _, .nil, h => by
    cases h
    exact .nil
  | _, _, ds, .cons h1 h2, h => by
    obtain ⟨d, e1, h⟩ := Option.bind_eq_some_iff.mp h
    obtain ⟨ds', e2, e3⟩ := Option.map_eq_some_iff.mp h
    subst e3
    exact .cons (R.view h1 e1) (Rel.views R h2 e2)
def CallD (K : PySem.W.Frag) (r : List V → Hp → VK → Prop) (g : List PyData → Option Res) : Prop := ∀ (Hk H : Hp) (vs : List V) (ds : List PyData) (res : Res) (Q : VK), Same Hk H → ViewAll K Hk H vs ds → g ds = some res → (∀ v H', Out K Hk H res v H' → Q v H') → r vs H Q
def mCB (g : List PyData → Option Res) (ms : MA) : ME := fun env => (ms env).bind fun p => (rdAll p.2 p.1).bind fun ds => (g ds).map fun r => (r, p.2)
theorem cb_run {r : List V → Hp → VK → Prop} {g : List PyData → Option Res} (hg : CallD K r g) {σ : St} {H : Hp} {Q : VK} (h : tE K (mCB g ms) σ H Q) : tCB r (tA K ms) σ H Q := by
  obtain ⟨B, env, Hk, res, env', R, hm, k⟩ := h
  obtain ⟨⟨rs, e1⟩, h1, hm⟩ := Option.bind_eq_some_iff.mp hm
  obtain ⟨ds, h2, hm⟩ := Option.bind_eq_some_iff.mp hm
  obtain ⟨res', h5, hm⟩ := Option.map_eq_some_iff.mp hm
  cases hm
  refine ⟨B, env, Hk, rs, e1, R, h1, fun vs Hk1 H1 R1 s1 o1 => ?_⟩
  refine hg Hk1 H1 vs ds res Q R1.ex (R1.views o1 h2) h5 fun z H3 out => ?_
  obtain ⟨Hk3, R3, s3, o3⟩ := R1.out out
  exact k z Hk3 H3 R3 (s1.trans s3) o3
theorem ve_callB {x : Str} {p : Pos} {id : String} {r : List V → Hp → VK → Prop} {g : List PyData → Option Res} (hc : CallR X (.builtin id) r) (hG : CallD X.K r g) (hg : Gl X x) (hm : X.mg x = none) (hv : bootBuiltins x = some (.builtin id)) (ha : VA X (e :: es) ms) (hn : x ≠ "__name__" := by decide) (hdb : (x == ("__debug__" : Str)) = false := by decide)
    (he : starEach (e :: es) X.env = (false, eval e X.env) :: starEach es X.env := by rfl) (hpl : (backTo pos (starEach es X.env)).any (·.1) = false := by rfl) : VE X (.Call (.Name x p) (e :: es) [] pos) (mCB g ms) :=
  (pe_callB hc hg hm hv ha hn hdb he hpl).imp fun _ _ _ => cb_run hG
theorem ve_callTy {x : Str} {p : Pos} {T : String} {r : List V → Hp → VK → Prop} {g : List PyData → Option Res} (hc : CallR X (.type T) r) (hG : CallD X.K r g) (hg : Gl X x) (hm : X.mg x = none) (hv : bootBuiltins x = some (.type T)) (ha : VA X (e :: es) ms) (hn : x ≠ "__name__" := by decide) (hdb : (x == ("__debug__" : Str)) = false := by decide)
    (he : starEach (e :: es) X.env = (false, eval e X.env) :: starEach es X.env := by rfl) (hpl : (backTo pos (starEach es X.env)).any (·.1) = false := by rfl) : VE X (.Call (.Name x p) (e :: es) [] pos) (mCB g ms) :=
  (pe_callTy hc hg hm hv ha hn hdb he hpl).imp fun _ _ _ => cb_run hG
/-- a method of a built-in type, the receiver not changed -/
def tyD : String → PyData → Bool
  | T, .str _ => T == "str"
  | T, .int _ => T == "int"
  | T, .list _ => T == "list"
  | _, _ => false
theorem tyD_V {Hk : Kn} {H : Hp} {T : String} {v : V} {d : PyData} (e : Same Hk H) (h : View K Hk H v d) (t : tyD T d = true) : tyV K T v H := by
  cases d with
  | str x => rw [h.str]; exact (beq_iff_eq.mp t)
  | int x => rw [h.int]; exact (beq_iff_eq.mp t)
  | list ds =>
    obtain ⟨a, vs, rfl, h1, h2⟩ := h.list e
    exact .inl ⟨beq_iff_eq.mp t, vs, SqL.of h1⟩
  | none => cases t
  | bool b => cases t
  | tuple b => cases t
  | dict b => cases t
def MtD (K : PySem.W.Frag) (r : V → List V → Hp → VK → Prop) (g : PyData → List PyData → Option Res) : Prop := ∀ (Hk H : Hp) (x : V) (vs : List V) (d : PyData) (ds : List PyData) (res : Res) (Q : VK), Same Hk H → View K Hk H x d → ViewAll K Hk H vs ds → g d ds = some res → (∀ v H', Out K Hk H res v H' → Q v H') → r x vs H Q
def mBM (T : String) (g : PyData → List PyData → Option Res) (mo : ME) (ms : MA) : ME := fun env => (mo env).bind fun o => (rdv o.2 (stab o.1)).bind fun d0 => if tyD T d0 = true then (ms o.2).bind fun p => (rdv p.2 (stab o.1)).bind fun d => (rdAll p.2 p.1).bind fun ds => (g d ds).map fun r => (r, p.2) else none
theorem bm_run {T : String} {r : V → List V → Hp → VK → Prop} {g : PyData → List PyData → Option Res} (hg : MtD K r g) {σ : St} {H : Hp} {Q : VK} (h : tE K (mBM T g m ms) σ H Q) : tBM K T r (tE K m) (tA K ms) σ H Q := by
  obtain ⟨B, env, Hk, res, env', R, hm, k⟩ := h
  obtain ⟨⟨x, e0⟩, h0, hm⟩ := Option.bind_eq_some_iff.mp hm
  obtain ⟨d0, g0, hm⟩ := Option.bind_eq_some_iff.mp hm
  by_cases ht : tyD T d0 = true
  · rw [if_pos ht] at hm
    obtain ⟨⟨rs, e1⟩, h1, hm⟩ := Option.bind_eq_some_iff.mp hm
    obtain ⟨d, h3, hm⟩ := Option.bind_eq_some_iff.mp hm
    obtain ⟨ds, h2, hm⟩ := Option.bind_eq_some_iff.mp hm
    obtain ⟨res', h5, hm⟩ := Option.map_eq_some_iff.mp hm
    cases hm
    refine ⟨B, env, Hk, x, e0, R, h0, fun v Hk1 H1 R1 s1 o1 => ?_⟩
    obtain ⟨Hk1', R1', s1', o1'⟩ := R1.stab o1
    refine ⟨tyD_V R1'.ex (R1'.view o1' g0) ht, ?_⟩
    refine ⟨B, e0, Hk1', rs, e1, R1', h1, fun vs Hk2 H2 R2 s2 o2 => ?_⟩
    refine hg Hk2 H2 v vs d ds res Q R2.ex (R2.view (o1'.mono s2) h3) (R2.views o2 h2) h5 fun z H3 out => ?_
    obtain ⟨Hk3, R3, s3, o3⟩ := R2.out out
    exact k z Hk3 H3 R3 (((s1.trans s1').trans s2).trans s3) o3
  · rw [if_neg ht] at hm
    cases hm
end
end Cm
namespace Cm
open PySem L2
inductive Fl where
  | nx
  | bk
  | ct
  | rt (r : Res)
  /-- an exception of a class of the module, its fields -/
  | ex (C : Str) (fs : List (Str × PyData))
abbrev MS := Sl → Option (Fl × Sl)
inductive ExFs (K : PySem.W.Frag) (Hk : Hp) : List (Str × V) → List (Str × PyData) → Prop
  | nil : ExFs K Hk [] []
  | cons {k : Str} {v : V} {d : PyData} {vs : List (Str × V)} {ds : List (Str × PyData)} : Dv K Hk v d → ExFs K Hk vs ds → ExFs K Hk ((k, v) :: vs) ((k, d) :: ds)
theorem ExFs.mono {K : PySem.W.Frag} {Hk Hk' : Hp} (e : Same Hk Hk') : ∀ {vs : List (Str × V)} {ds : List (Str × PyData)}, ExFs K Hk vs ds → ExFs K Hk' vs ds
  | _, _, .nil => .nil
  | _, _, .cons h1 h2 => .cons (dv_mono e _ _ h1) (ExFs.mono e h2)
/-- what an exception carries -/
def ExOk (K : PySem.W.Frag) (Hk H : Hp) (d : Option Addr) (fs : List (Str × PyData)) : Prop := match d with
  | none => fs = []
  | some dd => ∃ vs, H dd = some (.xd vs) ∧ ExFs K Hk vs fs
def Fin (K : PySem.W.Frag) (B : Fb) (W : WX) (D : Ends) (f : Fl) (env : Sl) (σ : St) (Hk : Kn) (H : Hp) : Prop := match f with
  | .nx => D.nx σ H
  | .bk => D.bk σ H
  | .ct => D.ct σ H
  | .rt r => ∀ v, ResOk K B env σ Hk H r v → D.rt v H
  | .ex C fs => ∀ d, ExOk K Hk H d fs → W (.ref (He.ga K C)) d σ H
def tS (K : PySem.W.Frag) (W : WX) (m : MS) : TS := fun D σ H => ∃ B env Hk f env', Rel K B env σ Hk H ∧ m env = some (f, env') ∧
  ∀ σ' Hk' H', Rel K B env' σ' Hk' H' → KSame Hk Hk' → Fin K B W D f env' σ' Hk' H'
theorem _root_.L2.PS.imp {X : Cx} {e : Stmt} {t t' : TS} (h : PS X e t) (k : ∀ D σ H, t' D σ H → t D σ H) : PS X e t' := ⟨fun pins s σ H D I q => h.run pins s σ H D I (k D σ H q)⟩
theorem _root_.L2.PSs.imp {X : Cx} {e : List Stmt} {t t' : TS} (h : PSs X e t) (k : ∀ D σ H, t' D σ H → t D σ H) : PSs X e t' := ⟨fun pins s σ H D I q => h.run pins s σ H D I (k D σ H q)⟩
theorem _root_.L2.PI.imp {X : Cx} {tg e : Expr} {t t' : TI} (h : PI X tg e t) (k : ∀ σ H R, t' σ H R → t σ H R) : PI X tg e t' := ⟨fun pins s σ H R I q => h.run pins s σ H R I (k σ H R q)⟩
theorem _root_.L2.PG.imp {X : Cx} {e : Expr} {t t' : TG} (h : PG X e t) (k : ∀ v σ H Q, t' v σ H Q → t v σ H Q) : PG X e t' := ⟨fun pins s σ H v u Q I r q => h.run pins s σ H v u Q I r (k v σ H Q q)⟩
theorem _root_.L2.PGs.imp {X : Cx} {e : List Expr} {t t' : TGs} (h : PGs X e t) (k : ∀ v σ H Q, t' v σ H Q → t v σ H Q) : PGs X e t' := ⟨fun pins s σ H v u Q I r q => h.run pins s σ H v u Q I r (k v σ H Q q)⟩
/-- whatever exceptions are taken -/
def VS (X : Cx) (s : Stmt) (m : MS) : Prop := ∀ W, Takes X W → PS X s (tS X.K W m)
def VSs (X : Cx) (s : List Stmt) (m : MS) : Prop := ∀ W, Takes X W → PSs X s (tS X.K W m)
theorem VS.imp {X : Cx} {e : Stmt} {m m' : MS} (h : VS X e m) (k : ∀ W D σ H, tS X.K W m' D σ H → tS X.K W m D σ H) : VS X e m' := fun W t => (h W t).imp (k W)
theorem VSs.imp {X : Cx} {e : List Stmt} {m m' : MS} (h : VSs X e m) (k : ∀ W D σ H, tS X.K W m' D σ H → tS X.K W m D σ H) : VSs X e m' := fun W t => (h W t).imp (k W)
def mSkip : MS := fun env => some (.nx, env)
def mSeq (m n : MS) : MS := fun env => (m env).bind fun p => match p.1 with
  | .nx => n p.2
  | f => some (f, p.2)
def mDrop (m : ME) : MS := fun env => (m env).map fun p => (.nx, p.2)
def mRet (m : ME) : MS := fun env => (m env).map fun p => (.rt p.1, p.2)
def mIfS (t : MT) (a b : MS) : MS := fun env => (t env).bind fun p => if p.1 = true then a p.2 else b p.2
def putRes (i : Nat) (p : Res × Sl) : Option Sl := match p.1 with
  | .dat d => some (p.2.set i (.val d))
  | .new c => some (p.2.set i (.own c))
  | .slt j => (frz (.slt j, p.2)).bind fun q => match q.1 with
    | .dat d => some (q.2.set i (.val d))
    | _ => none
  | .pv q => some (p.2.set i (.pv q))
def mSet (i : Nat) (m : ME) : MS := fun env => (m env).bind fun p => (putRes i p).map fun e => (.nx, e)
section
variable {X : Cx} {K : PySem.W.Frag} {m n : MS} {me : ME} {t : MT} {st : Stmt} {rest as bs : List Stmt} {e c : Expr} {pos : Pos}
theorem skip_run {W : WX} {D : Ends} {σ : St} {H : Hp} (h : tS K W mSkip D σ H) : tNext D σ H := by
  obtain ⟨B, env, Hk, f, env', R, hm, k⟩ := h
  cases hm
  exact k σ Hk H R (.refl _)
theorem seq_run {W : WX} {D : Ends} {σ : St} {H : Hp} (h : tS K W (mSeq m n) D σ H) : tSeq (tS K W m) (tS K W n) D σ H := by
  obtain ⟨B, env, Hk, f, env', R, hm, k⟩ := h
  obtain ⟨⟨f1, e1⟩, h1, hm⟩ := Option.bind_eq_some_iff.mp hm
  refine ⟨B, env, Hk, f1, e1, R, h1, fun σ1 Hk1 H1 R1 s1 => ?_⟩
  cases f1 with
  | nx => exact ⟨B, e1, Hk1, f, env', R1, hm, fun σ2 Hk2 H2 R2 s2 => k σ2 Hk2 H2 R2 (s1.trans s2)⟩
  | bk => cases hm; exact k σ1 Hk1 H1 R1 s1
  | ct => cases hm; exact k σ1 Hk1 H1 R1 s1
  | rt r => cases hm; exact k σ1 Hk1 H1 R1 s1
  | ex C fs => cases hm; exact k σ1 Hk1 H1 R1 s1
theorem vs_nil : VSs X [] mSkip := fun W _ => pss_nil.imp fun _ _ _ => skip_run
theorem vs_cons (h1 : VS X st m) (h2 : VSs X rest n) : VSs X (st :: rest) (mSeq m n) := fun W t => (pss_cons (h1 W t) (h2 W t)).imp fun _ _ _ => seq_run
theorem vs_one (h1 : VS X st m) : VSs X [st] m := fun W t => pss_one (h1 W t)
theorem vs_pass : VS X (.Pass pos) mSkip := fun W _ => ps_pass.imp fun _ _ _ => skip_run
def mBrk : MS := fun env => some (.bk, env)
def mCont : MS := fun env => some (.ct, env)
theorem vs_break : VS X (.Break pos) mBrk := fun W _ => ps_break.imp fun _ _ _ h => by
  obtain ⟨B, env, Hk, f, env', R, hm, k⟩ := h
  cases hm
  exact k _ Hk _ R (.refl _)
theorem vs_continue : VS X (.Continue pos) mCont := fun W _ => ps_continue.imp fun _ _ _ h => by
  obtain ⟨B, env, Hk, f, env', R, hm, k⟩ := h
  cases hm
  exact k _ Hk _ R (.refl _)
theorem drop_run {W : WX} {D : Ends} {σ : St} {H : Hp} (h : tS K W (mDrop me) D σ H) : tDrop (tE K me) D σ H := by
  obtain ⟨B, env, Hk, f, env', R, hm, k⟩ := h
  obtain ⟨⟨r1, e1⟩, h1, hm⟩ := Option.map_eq_some_iff.mp hm
  cases hm
  exact ⟨B, env, Hk, r1, e1, R, h1, fun v Hk1 H1 R1 s1 o1 => k σ Hk1 H1 R1 s1⟩
theorem vs_expr (he : VE X e me) (hs : swapsWith e none pos.line X.env = pure false := by rfl) : VS X (.Expr e pos) (mDrop me) := fun W _ => (ps_expr he hs).imp fun _ _ _ => drop_run
theorem ret_run {W : WX} {D : Ends} {σ : St} {H : Hp} (h : tS K W (mRet me) D σ H) : tRet (tE K me) D σ H := by
  obtain ⟨B, env, Hk, f, env', R, hm, k⟩ := h
  obtain ⟨⟨r1, e1⟩, h1, hm⟩ := Option.map_eq_some_iff.mp hm
  cases hm
  exact ⟨B, env, Hk, r1, e1, R, h1, fun v Hk1 H1 R1 s1 o1 => k σ Hk1 H1 R1 s1 v o1⟩
theorem vs_ret (he : VE X e me) : VS X (.Return (some e) pos) (mRet me) := fun W _ => (ps_ret he).imp fun _ _ _ => ret_run
theorem ifS_run {W : WX} {D : Ends} {σ : St} {H : Hp} (h : tS K W (mIfS t m n) D σ H) : tIfS (tT K t) (tS K W m) (tS K W n) D σ H := by
  obtain ⟨B, env, Hk, f, env', R, hm, k⟩ := h
  obtain ⟨⟨b, e1⟩, h1, hm⟩ := Option.bind_eq_some_iff.mp hm
  refine ⟨B, env, Hk, b, e1, R, h1, fun Hk1 H1 R1 s1 => ?_⟩
  cases b with
  | true => exact ⟨B, e1, Hk1, f, env', R1, hm, fun σ2 Hk2 H2 R2 s2 => k σ2 Hk2 H2 R2 (s1.trans s2)⟩
  | false => exact ⟨B, e1, Hk1, f, env', R1, hm, fun σ2 Hk2 H2 R2 s2 => k σ2 Hk2 H2 R2 (s1.trans s2)⟩
theorem vs_if (hc : VT X c t) (ha : VSs X as m) (hb : VSs X bs n) : VS X (.If c as bs pos) (mIfS t m n) := fun W t => (ps_if hc (ha W t) (hb W t)).imp fun _ _ _ => ifS_run
theorem Rel.put {B : Fb} {env env' : Sl} {σ : St} {Hk : Kn} {H : Hp} {r : Res} {v : V} {i : Nat} (R : Rel K B env σ Hk H) (o : ResOk K B env σ Hk H r v) (h : putRes i (r, env) = some env') : ∃ Hk' : Kn, KSame Hk Hk' ∧ Rel K B env' (σ.set i (some v)) Hk' H := by
  cases r with
  | dat d =>
    cases h
    exact ⟨Hk, .refl _, R.setVal o⟩
  | new c =>
    cases h
    obtain ⟨a, rfl, h1, h2, h3, h5, h4⟩ := o
    exact ⟨Hk, .refl _, R.setOwn h1 h2 h3 h5 h4⟩
  | pv p =>
    cases h
    exact ⟨Hk, .refl _, R.setPv o⟩
  | slt j =>
    obtain ⟨⟨r', e'⟩, h1, h2⟩ := Option.bind_eq_some_iff.mp h
    obtain ⟨Hk', d, rfl, R', s, z⟩ := R.frz o h1
    cases h2
    exact ⟨Hk', s, R'.setVal z⟩
theorem set_run {i : Nat} {W : WX} {D : Ends} {σ : St} {H : Hp} (h : tS K W (mSet i me) D σ H) : tAsg (tE K me) (gName i) D σ H := by
  obtain ⟨B, env, Hk, f, env', R, hm, k⟩ := h
  obtain ⟨⟨r1, e1⟩, h1, hm⟩ := Option.bind_eq_some_iff.mp hm
  obtain ⟨e2, h2, hm⟩ := Option.map_eq_some_iff.mp hm
  cases hm
  refine ⟨B, env, Hk, r1, e1, R, h1, fun v Hk1 H1 R1 s1 o1 => ?_⟩
  obtain ⟨Hk2, s2, R2⟩ := R1.put o1 h2
  exact k _ Hk2 H1 R2 (s1.trans s2)
theorem vs_set {i : Nat} {x : Str} {pos' : Pos} (hN : X.N.Nodup) (he : VE X e me) (hi : X.N[i]? = some x := by rfl) (hx : Loc X.env.scope x := by first | exact Or.inl rfl | exact Or.inr rfl) (hs : swapsWith e (some (.Name x pos')) pos.line X.env = pure false := by rfl) (hf : X.fn x = true ∨ X.env.scope.names.lookup x = some .local := by first | exact .inl rfl | exact .inr rfl | assumption) :
    VS X (.Assign [.Name x pos'] e pos) (mSet i me) := fun W _ => (ps_set hN hi hx he hs hf).imp fun _ _ _ => set_run
end
/-! ### a cell that waits is kept -/
def Fb.guard (B : Fb) (p : Addr) (o : HO) : Fb := ⟨B.K0, upd B.H0 p o, B.A, B.P, B.S⟩
section
variable {K : PySem.W.Frag} {B : Fb} {env : Sl} {σ : St} {Hk : Kn} {H : Hp} {p : Addr} {o : HO}
theorem Rel.guard (R : Rel K B env σ Hk H) (h : H p = some o) (hk : Hk p = none) (h0 : B.H0 p = none) (hP : ∀ (n : Nat), Hk.P n ≠ some p) (hn : ∀ (j : Nat) s, env[j]? = some s → s.mut → σ[j]? ≠ some (some (V.ref p))) : Rel K (B.guard p o) env σ Hk H where
  ex := R.ex
  kn := R.kn
  fr := fun a h1 h2 => by
    have ne : a ≠ p := fun z => h1 (by rw [z]; exact hk)
    show upd B.H0 p o a = none
    rw [upd_ne ne]
    exact R.fr a h1 h2
  kp := fun a u h1 h2 => by
    by_cases e : a = p
    · subst e
      have h1 : upd B.H0 a o a = some u := h1
      rw [upd_same] at h1
      rw [← h1]
      exact h
    · have h1 : upd B.H0 p o a = some u := h1
      rw [upd_ne e] at h1
      exact R.kp a u h1 h2
  oin := R.oin
  o0 := fun a ha => by
    show upd B.H0 p o a ≠ none
    by_cases e : a = p
    · rw [e, upd_same]
      exact fun z => nomatch z
    · rw [upd_ne e]
      exact R.o0 a ha
  len := R.len
  slot := fun i s hi => by
    obtain ⟨u, h1, h2⟩ := R.slot i s hi
    refine ⟨u, h1, ?_⟩
    cases s with
    | no => trivial
    | val d => exact h2
    | scr d => exact h2
    | pin a => exact h2
    | pv p => exact h2
    | sto M => trivial
    | io k c => exact h2
    | own c =>
      obtain ⟨a, e1, q1, q2, q3⟩ := h2
      have ne : a ≠ p := fun z => by
        subst e1 z
        exact hn i _ hi trivial h1
      refine ⟨a, e1, q1, ?_, q3⟩
      show upd B.H0 p o a = none
      rw [upd_ne ne]
      exact q2
  sep := R.sep
  sok := fun M h => let S := R.sok M h; ⟨S.cel, S.inj, S.top⟩
  pin := fun n a h => by
    refine ⟨(R.pin n a h).1, fun z => ?_⟩
    have ne : a ≠ p := fun e => hP n (e ▸ h)
    rcases (R.pin n a h).2 z with q | q
    · refine .inl ?_
      show upd B.H0 p o a = none
      rw [upd_ne ne]
      exact q
    · exact .inr q
  psep := R.psep
theorem Rel.unguard (R : Rel K (B.guard p o) env σ Hk H) (h0 : B.H0 p = none) (hK : B.K0 p = none) (hO : ¬ B.io p) : Rel K B env σ Hk H ∧ H p = some o ∧ Hk p = none ∧ (∀ (n : Nat), Hk.P n ≠ some p) ∧ ∀ (j : Nat) s, env[j]? = some s → s.mut → σ[j]? ≠ some (some (V.ref p)) := by
  have hp : H p = some o := R.kp p o (show upd B.H0 p o p = some o from upd_same) hO
  have hk : Hk p = none := by
    cases q : Hk p with
    | none => rfl
    | some u =>
      have z := R.fr p (ne_none q) hK
      rw [show (B.guard p o).H0 p = some o from upd_same] at z
      cases z
  have back : ∀ a, (B.guard p o).H0 a = none → a ≠ p ∧ B.H0 a = none := fun a z => by
    have z : upd B.H0 p o a = none := z
    by_cases e : a = p
    · rw [e, upd_same] at z
      cases z
    · rw [upd_ne e] at z
      exact ⟨e, z⟩
  have hPp : ∀ (n : Nat), Hk.P n ≠ some p := fun n e => by
    rcases (R.pin n p e).2 hk with q | q
    · exact (back p q).1 rfl
    · exact hO q
  refine ⟨⟨R.ex, R.kn, fun a h1 h2 => (back a (R.fr a h1 h2)).2, fun a u h1 h2 => ?_, R.oin, fun a ha z => ?_, R.len, fun i s hi => ?_, R.sep, fun M h => let S := R.sok M h; ⟨S.cel, S.inj, S.top⟩, fun n a h => ⟨(R.pin n a h).1, fun z => ((R.pin n a h).2 z).imp (fun q => (back a q).2) id⟩, R.psep⟩, hp, hk, hPp, fun j s hj hm z => ?_⟩
  · have ne : a ≠ p := fun e => by rw [e, h0] at h1; cases h1
    exact R.kp a u (by show upd B.H0 p o a = some u; rw [upd_ne ne]; exact h1) h2
  · have ne : a ≠ p := fun e => hO (by rw [← e]; exact ha)
    exact R.o0 a ha (by show upd B.H0 p o a = none; rw [upd_ne ne]; exact z)
  · obtain ⟨u, h1, h2⟩ := R.slot i s hi
    refine ⟨u, h1, ?_⟩
    cases s with
    | no => trivial
    | val d => exact h2
    | scr d => exact h2
    | pin a => exact h2
    | pv p => exact h2
    | sto M => trivial
    | io k c => exact h2
    | own c =>
      obtain ⟨a, e1, q1, q2, q3⟩ := h2
      exact ⟨a, e1, q1, (back a q2).2, q3⟩
  · obtain ⟨u, h1, h2⟩ := R.slot j s hj
    rw [z] at h1
    cases h1
    cases s with
    | no => cases hm
    | val d => cases hm
    | scr d => cases hm
    | pin a => cases hm
    | pv p => cases hm
    | sto M => cases hm
    | io k c =>
      obtain ⟨a, e1, q1, q2, q3⟩ := h2
      cases e1
      exact hO (.inl ⟨k, q2⟩)
    | own c =>
      obtain ⟨a, e1, q1, q2, q3⟩ := h2
      cases e1
      exact (back _ q2).1 rfl
/-- what nobody sees changes -/
theorem Rel.other (R : Rel K B env σ Hk H) {u : HO} (hk : Hk p = none) (h0 : B.H0 p = none) (hP : ∀ (n : Nat), Hk.P n ≠ some p) (hx : ∀ x, H p ≠ some (.own x)) (hn : ∀ (j : Nat) s, env[j]? = some s → s.mut → σ[j]? ≠ some (some (V.ref p))) : Rel K B env σ Hk (upd H p u) where
  ex := fun b x e => by
    have ne : b ≠ p := fun z => by rw [z, hk] at e; cases e
    rw [upd_ne ne]
    exact R.ex _ _ e
  kn := R.kn
  fr := R.fr
  kp := fun a x h1 h2 => by
    have ne : a ≠ p := fun z => by rw [z, h0] at h1; cases h1
    rw [upd_ne ne]
    exact R.kp a x h1 h2
  oin := fun a ha => by
    refine ⟨?_, (R.oin a ha).2⟩
    by_cases e : a = p
    · rw [e, upd_same]
      exact fun z => nomatch z
    · rw [upd_ne e]
      exact (R.oin a ha).1
  o0 := R.o0
  len := R.len
  slot := fun i s hi => by
    obtain ⟨x, h1, h2⟩ := R.slot i s hi
    refine ⟨x, h1, ?_⟩
    cases s with
    | no => trivial
    | val d => exact h2
    | scr d => exact h2
    | pin a => exact h2
    | pv p => exact h2
    | sto M => trivial
    | own c =>
      obtain ⟨a, e1, q1, q2, q3⟩ := h2
      have ne : a ≠ p := fun z => by
        subst e1 z
        exact hn i _ hi trivial h1
      exact ⟨a, e1, q1, q2, q3.mono (.refl _) fun o z => by rw [upd_ne ne]; exact z⟩
    | io k c =>
      obtain ⟨a, e1, q1, q2, q3⟩ := h2
      have ne : a ≠ p := fun z => by
        subst e1 z
        exact hn i _ hi trivial h1
      exact ⟨a, e1, q1, q2, q3.mono (.refl _) fun o z => by rw [upd_ne ne]; exact z⟩
  sep := R.sep
  sok := fun M h => (R.sok M h).mono (.refl _) rfl (fun _ _ _ z => z) (fun b o ⟨n, hb⟩ z => by
    have ne : b ≠ p := fun e => hP n (e ▸ hb)
    rw [upd_ne ne]
    exact z) fun dx b z => by
    have ne : dx ≠ p := fun e => hx b (e ▸ z)
    rw [upd_ne ne]
    exact z
  pin := fun n b h => by
    have ne : b ≠ p := fun e => hP n (e ▸ h)
    rw [upd_ne ne]
    exact R.pin n b h
  psep := R.psep
theorem Rel.free0 (R : Rel K B env σ Hk H) (h : Hk p = none) : B.K0 p = none := R.kn.free h
theorem Rel.nO (R : Rel K B env σ Hk H) (h : B.H0 p = none) : ¬ B.io p := fun z => R.o0 p z h
/-- a result waits while another is made -/
theorem Rel.wait (R : Rel K B env σ Hk H) {r : Res} {v : V} (o : ResOk K B env σ Hk H r v) :
    ∃ B', Rel K B' env σ Hk H ∧ ∀ {env' : Sl} {Hk' : Kn} {H' : Hp}, Rel K B' env' σ Hk' H' → KSame Hk Hk' → Rel K B env' σ Hk' H' ∧ ResOk K B env' σ Hk' H' r v ∧
      ∀ {r' : Res} {v' : V}, ResOk K B' env' σ Hk' H' r' v' → ResOk K B env' σ Hk' H' r' v' ∧ ∀ c c' a, r = .new c → r' = .new c' → v = .ref a → v' ≠ .ref a := by
  have triv : ∀ {env' : Sl} {Hk' : Kn} {H' : Hp} {r' : Res} {v' : V}, (∀ c, r ≠ .new c) → ResOk K B env' σ Hk' H' r' v' → ResOk K B env' σ Hk' H' r' v' ∧ ∀ c c' a, r = .new c → r' = .new c' → v = .ref a → v' ≠ .ref a := fun hr o' => ⟨o', fun c c' a e => absurd e (hr c)⟩
  cases r with
  | dat d => exact ⟨B, R, fun R' s => ⟨R', dv_mono s d v o, triv fun c z => by cases z⟩⟩
  | slt i => exact ⟨B, R, fun R' s => ⟨R', o, triv fun c z => by cases z⟩⟩
  | pv p => exact ⟨B, R, fun R' s => ⟨R', PvOk.mono s o, triv fun c z => by cases z⟩⟩
  | new c =>
    obtain ⟨a, rfl, h1, h2, h3, h5, h4⟩ := o
    obtain ⟨u, hu⟩ := h3.there
    refine ⟨B.guard a u, R.guard hu h1 h2 h5 h4, fun {env' Hk' H'} R' s => ?_⟩
    obtain ⟨R2, q1, q2, q4, q3⟩ := R'.unguard h2 (R.free0 h1) (R.nO h2)
    refine ⟨R2, ⟨a, rfl, q2, h2, h3.mono s fun o z => by rw [hu] at z; rw [← z]; exact q1, q4, q3⟩, fun {r' v'} o' => ?_⟩
    cases r' with
    | dat d => exact ⟨o', fun c c' b _ e => by cases e⟩
    | slt i => exact ⟨o', fun c c' b _ e => by cases e⟩
    | pv p => exact ⟨o', fun c c' b _ e => by cases e⟩
    | new c' =>
      obtain ⟨b, rfl, g1, g2, g3, g5, g4⟩ := o'
      have g2 : upd B.H0 a u b = none := g2
      have ne : b ≠ a := fun e => by rw [e, upd_same] at g2; cases g2
      rw [upd_ne ne] at g2
      refine ⟨⟨b, rfl, g1, g2, g3, g5, g4⟩, fun _ _ x _ _ e1 e2 => ?_⟩
      cases e1
      exact ne (V.ref.inj e2)
end
end Cm
namespace Cm
open PySem L2
/-! ### several results that wait -/
def frzS : Res × Sl → Option (Res × Sl)
  | (.slt i, e) => frz (.slt i, e)
  | p => some p
def mFrzS (m : ME) : ME := fun env => (m env).bind frzS
def NewAt (r : Res) (v : V) (a : Addr) : Prop := (∃ c, r = .new c) ∧ v = .ref a
inductive RuAll (K : PySem.W.Frag) (B : Fb) (env : Sl) (σ : St) (Hk : Kn) (H : Hp) : List Res → List V → Prop
  | nil : RuAll K B env σ Hk H [] []
  | cons {r : Res} {v : V} {rs : List Res} {vs : List V} : ResOk K B env σ Hk H r v → (∀ i, r ≠ .slt i) → RuAll K B env σ Hk H rs vs → (∀ a, NewAt r v a → ∀ (j : Nat) r' v', rs[j]? = some r' → vs[j]? = some v' → ¬ NewAt r' v' a) → RuAll K B env σ Hk H (r :: rs) (v :: vs)
def tAU (K : PySem.W.Frag) (m : MA) : TA := fun σ H Q => ∃ B env Hk rs env', Rel K B env σ Hk H ∧ m env = some (rs, env') ∧
  ∀ vs Hk' H', Rel K B env' σ Hk' H' → KSame Hk Hk' → RuAll K B env' σ Hk' H' rs vs → Q vs H'
abbrev VAU (X : Cx) (es : List Expr) (m : MA) : Prop := PA X es (tAU X.K m)
def mConsU (m : ME) (ms : MA) : MA := fun env => (mFrzS m env).bind fun p => (ms p.2).map fun q => (p.1 :: q.1, q.2)
section
variable {X : Cx} {K : PySem.W.Frag} {m : ME} {ms : MA} {e : Expr} {es : List Expr} {pos : Pos}
theorem Rel.frzS {B : Fb} {env env' : Sl} {σ : St} {Hk : Kn} {H : Hp} {r r' : Res} {v : V} (R : Rel K B env σ Hk H) (o : ResOk K B env σ Hk H r v) (h : Cm.frzS (r, env) = some (r', env')) :
    ∃ Hk' : Kn, Rel K B env' σ Hk' H ∧ KSame Hk Hk' ∧ ResOk K B env' σ Hk' H r' v ∧ ∀ i, r' ≠ .slt i := by
  cases r with
  | dat d =>
    cases h
    exact ⟨Hk, R, .refl _, o, fun i z => by cases z⟩
  | new c =>
    cases h
    exact ⟨Hk, R, .refl _, o, fun i z => by cases z⟩
  | pv p =>
    cases h
    exact ⟨Hk, R, .refl _, o, fun i z => by cases z⟩
  | slt i =>
    obtain ⟨Hk', d, rfl, R', s, z⟩ := R.frz o h
    exact ⟨Hk', R', s, z, fun i z => by cases z⟩
theorem RuAll.back {B B' : Fb} {env' : Sl} {σ : St} {Hk' : Kn} {H' : Hp} (f : ∀ {r' : Res} {v' : V}, ResOk K B' env' σ Hk' H' r' v' → ResOk K B env' σ Hk' H' r' v') : ∀ {rs : List Res} {vs : List V}, RuAll K B' env' σ Hk' H' rs vs → RuAll K B env' σ Hk' H' rs vs
  | _, _, .nil => .nil
  | _, _, .cons h1 h2 h3 h4 => .cons (f h1) h2 (RuAll.back f h3) h4
theorem RuAll.get {B : Fb} {env : Sl} {σ : St} {Hk : Kn} {H : Hp} : ∀ {rs : List Res} {vs : List V}, RuAll K B env σ Hk H rs vs → ∀ (j : Nat) r v, rs[j]? = some r → vs[j]? = some v → ResOk K B env σ Hk H r v
  | _, _, .nil, j, r, v, h, _ => by simp at h
  | _, _, .cons h1 _ _ _, 0, r, v, h, h' => by
    simp at h h'
    subst h h'
    exact h1
  | _, _, .cons _ _ h3 _, j + 1, r, v, h, h' => RuAll.get h3 j r v (by simpa using h) (by simpa using h')
theorem nilU_run {σ : St} {H : Hp} {Q : List V → Hp → Prop} (h : tAU K mNil σ H Q) : tNil σ H Q := by
  obtain ⟨B, env, Hk, rs, env', R, hm, k⟩ := h
  cases hm
  exact k [] Hk H R (.refl _) .nil
theorem consU_run {σ : St} {H : Hp} {Q : List V → Hp → Prop} (h : tAU K (mConsU m ms) σ H Q) : tCons (tE K m) (tAU K ms) σ H Q := by
  obtain ⟨B, env, Hk, rs, env', R, hm, k⟩ := h
  obtain ⟨⟨x, e1⟩, h1, hm⟩ := Option.bind_eq_some_iff.mp hm
  obtain ⟨⟨x0, e0⟩, h0, h1⟩ := Option.bind_eq_some_iff.mp h1
  obtain ⟨⟨xs, e2⟩, h2, hm⟩ := Option.map_eq_some_iff.mp hm
  cases hm
  refine ⟨B, env, Hk, x0, e0, R, h0, fun v Hk1 H1 R1 s1 o1 => ?_⟩
  obtain ⟨Hk1', R1', s1', o1', n1⟩ := R1.frzS o1 h1
  obtain ⟨B', R2, back⟩ := R1'.wait o1'
  refine ⟨B', e1, Hk1', xs, e2, R2, h2, fun vs Hk2 H2 R3 s2 o2 => ?_⟩
  obtain ⟨R4, o4, b4⟩ := back R3 s2
  refine k _ Hk2 H2 R4 ((s1.trans s1').trans s2) (.cons o4 n1 (o2.back fun o => (b4 o).1) fun a hna j r' v' hj hj' hnb => ?_)
  obtain ⟨⟨c, rfl⟩, rfl⟩ := hna
  obtain ⟨⟨c', rfl⟩, rfl⟩ := hnb
  exact (b4 (o2.get j _ _ hj hj')).2 c c' a rfl rfl rfl rfl
theorem vau_nil : VAU X [] mNil := pa_nil.imp fun _ _ _ => nilU_run
theorem vau_cons (ha : VE X e m) (hr : VAU X es ms) (hs : starEach (e :: es) X.env = (false, eval e X.env) :: starEach es X.env := by rfl) : VAU X (e :: es) (mConsU m ms) := (pa_cons ha hr hs).imp fun _ _ _ => consU_run
end
def putsRes : List Nat → List Res → Sl → Option Sl
  | [], [], e => some e
  | i :: is, r :: rs, e => (putRes i (r, e)).bind (putsRes is rs)
  | _, _, _ => none
def setAll : St → List Nat → List V → St
  | σ, i :: is, v :: vs => setAll (σ.set i (some v)) is vs
  | σ, _, _ => σ
def mPutU (is : List Nat) (ms : MA) : MS := fun env => (ms env).bind fun p => (putsRes is p.1 p.2).map fun e => (.nx, e)
section
variable {X : Cx} {K : PySem.W.Frag} {ms : MA} {e : Expr} {es : List Expr} {pos : Pos}
theorem RuAll.put {B : Fb} {env env' : Sl} {σ : St} {Hk : Kn} {H : Hp} {i : Nat} {r : Res} {v : V} (o : ResOk K B env σ Hk H r v) (n : ∀ i, r ≠ .slt i) (h : putRes i (r, env) = some env') :
    ∀ {rs : List Res} {vs : List V}, RuAll K B env σ Hk H rs vs → (∀ a, NewAt r v a → ∀ (j : Nat) r' v', rs[j]? = some r' → vs[j]? = some v' → ¬ NewAt r' v' a) → RuAll K B env' (σ.set i (some v)) Hk H rs vs
  | _, _, .nil, _ => .nil
  | r' :: rs, v' :: vs, .cons h1 h2 h3 h4, hn => by
    refine .cons ?_ h2 (RuAll.put o n h h3 fun a ha j r2 v2 e1 e2 => hn a ha (j + 1) r2 v2 (by simpa using e1) (by simpa using e2)) h4
    cases r' with
    | dat d => exact h1
    | pv p => exact h1
    | slt j => exact absurd rfl (h2 j)
    | new c =>
      obtain ⟨a, rfl, q1, q2, q3, q5, q4⟩ := h1
      refine ⟨a, rfl, q1, q2, q3, q5, fun j s hj hm z => ?_⟩
      cases r with
      | slt j => exact absurd rfl (n j)
      | pv p =>
        cases h
        rcases set_get hj with ⟨rfl, rfl⟩ | ⟨ne, hj⟩
        · cases hm
        · rw [List.getElem?_set_ne (fun z => ne z.symm)] at z
          exact q4 j s hj hm z
      | dat d =>
        cases h
        rcases set_get hj with ⟨rfl, rfl⟩ | ⟨ne, hj⟩
        · cases hm
        · rw [List.getElem?_set_ne (fun z => ne z.symm)] at z
          exact q4 j s hj hm z
      | new c2 =>
        cases h
        obtain ⟨b, rfl, _⟩ := o
        rcases set_get hj with ⟨rfl, rfl⟩ | ⟨ne, hj⟩
        · rcases set_get z with ⟨_, e⟩ | ⟨z2, _⟩
          · cases e
            exact hn a ⟨⟨c2, rfl⟩, rfl⟩ 0 _ _ rfl rfl ⟨⟨c, rfl⟩, rfl⟩
          · exact absurd rfl z2
        · rw [List.getElem?_set_ne (fun z => ne z.symm)] at z
          exact q4 j s hj hm z
theorem Rel.puts {B : Fb} : ∀ {is : List Nat} {rs : List Res} {vs : List V} {env env' : Sl} {σ : St} {Hk : Kn} {H : Hp}, Rel K B env σ Hk H → RuAll K B env σ Hk H rs vs → putsRes is rs env = some env' → Rel K B env' (setAll σ is vs) Hk H ∧ is.length = vs.length
  | [], [], _, env, env', σ, Hk, H, R, .nil, h => by
    cases h
    exact ⟨R, rfl⟩
  | i :: is, r :: rs, _, env, env', σ, Hk, H, R, .cons (v := v) (vs := vs) h1 h2 h3 h4, h => by
    obtain ⟨e1, g1, g2⟩ := Option.bind_eq_some_iff.mp h
    have R1 : Rel K B e1 (σ.set i (some v)) Hk H := by
      cases r with
      | slt j => exact absurd rfl (h2 j)
      | dat d =>
        cases g1
        exact R.setVal h1
      | pv p =>
        cases g1
        exact R.setPv h1
      | new c =>
        cases g1
        obtain ⟨a, rfl, q1, q2, q3, q5, q4⟩ := h1
        exact R.setOwn q1 q2 q3 q5 q4
    obtain ⟨R2, l⟩ := Rel.puts R1 (RuAll.put h1 h2 g1 h3 h4) g2
    exact ⟨R2, by simp [l]⟩
  | [], _ :: _, _, env, env', σ, Hk, H, R, _, h => by cases h
  | _ :: _, [], _, env, env', σ, Hk, H, R, _, h => by cases h
theorem par_run {i j : Nat} {W : WX} {D : Ends} {σ : St} {H : Hp} (h : tS K W (mPutU [i, j] ms) D σ H) : tPar i j (tAU K ms) D σ H := by
  obtain ⟨B, env, Hk, f, env', R, hm, k⟩ := h
  obtain ⟨⟨rs, e1⟩, h1, hm⟩ := Option.bind_eq_some_iff.mp hm
  obtain ⟨e2, h2, hm⟩ := Option.map_eq_some_iff.mp hm
  cases hm
  refine ⟨B, env, Hk, rs, e1, R, h1, fun vs Hk1 H1 R1 s1 o1 => ?_⟩
  obtain ⟨R2, l⟩ := R1.puts o1 h2
  match vs, l with
  | [v, w], _ => exact ⟨v, w, rfl, k _ Hk1 H1 R2 s1⟩
theorem par3_run {i j l : Nat} {W : WX} {D : Ends} {σ : St} {H : Hp} (h : tS K W (mPutU [i, j, l] ms) D σ H) : tPar3 i j l (tAU K ms) D σ H := by
  obtain ⟨B, env, Hk, f, env', R, hm, k⟩ := h
  obtain ⟨⟨rs, e1⟩, h1, hm⟩ := Option.bind_eq_some_iff.mp hm
  obtain ⟨e2, h2, hm⟩ := Option.map_eq_some_iff.mp hm
  cases hm
  refine ⟨B, env, Hk, rs, e1, R, h1, fun vs Hk1 H1 R1 s1 o1 => ?_⟩
  obtain ⟨R2, l⟩ := R1.puts o1 h2
  match vs, l with
  | [u, v, w], _ => exact ⟨u, v, w, rfl, k _ Hk1 H1 R2 s1⟩
theorem vs_par {i j : Nat} {x y : Str} {a b : Expr} {px py pt : Pos} {kt k2 pt2} (hN : X.N.Nodup) (ha : VAU X [a, b] ms) (hc : X.calm = true := by rfl) (hi : X.N[i]? = some x := by rfl) (hj : X.N[j]? = some y := by rfl) (hij : i ≠ j := by decide)
    (hx : X.env.scope.names.lookup x = some .local := by rfl) (hy : X.env.scope.names.lookup y = some .local := by rfl)
    (hw : swappedStores [.Tuple [.Name x px, .Name y py] kt pt] (.Tuple [a, b] k2 pt2) X.env = pure (some [x, y]) := by rfl)
    (hs : swapsWithSole [.Tuple [.Name x px, .Name y py] kt pt] (.Tuple [a, b] k2 pt2) pos.line X.env = pure false := by rfl) :
    VS X (.Assign [.Tuple [.Name x px, .Name y py] kt pt] (.Tuple [a, b] k2 pt2) pos) (mPutU [i, j] ms) := fun W _ => (ps_par hc hN hi hj hij hx hy ha hw hs).imp fun _ _ _ => par_run
theorem vs_par3 {i j l : Nat} {x y z : Str} {a b c : Expr} {px py pz pt : Pos} {kt k2 pt2} (hN : X.N.Nodup) (ha : VAU X [a, b, c] ms) (hc : X.calm = true := by rfl) (hi : X.N[i]? = some x := by rfl) (hj : X.N[j]? = some y := by rfl) (hl : X.N[l]? = some z := by rfl) (hij : i ≠ j := by decide) (hil : i ≠ l := by decide) (hjl : j ≠ l := by decide)
    (hx : X.env.scope.names.lookup x = some .local := by rfl) (hy : X.env.scope.names.lookup y = some .local := by rfl) (hz : X.env.scope.names.lookup z = some .local := by rfl)
    (hw : swappedStores [.Tuple [.Name x px, .Name y py, .Name z pz] kt pt] (.Tuple [a, b, c] k2 pt2) X.env = pure (some [x, y, z]) := by rfl)
    (hs : swapsWithSole [.Tuple [.Name x px, .Name y py, .Name z pz] kt pt] (.Tuple [a, b, c] k2 pt2) pos.line X.env = pure false := by rfl) :
    VS X (.Assign [.Tuple [.Name x px, .Name y py, .Name z pz] kt pt] (.Tuple [a, b, c] k2 pt2) pos) (mPutU [i, j, l] ms) := fun W _ => (ps_par3 hc hN hi hj hl hij hil hjl hx hy hz ha hw hs).imp fun _ _ _ => par3_run
/-- .. where a name is a cell: a tuple is made and unpacked -/
def gNames : List Nat → TGs
  | [] => gNil
  | i :: is => gCons (gName i) (gNames is)
theorem gNames_run : ∀ {is : List Nat} {vs : List V} {σ : St} {H : Hp} {Q : St → Hp → Prop}, is.length = vs.length → Q (setAll σ is vs) H → gNames is vs σ H Q
  | [], [], _, _, _, _, q => ⟨rfl, q⟩
  | i :: is, v :: vs, σ, H, Q, l, q => ⟨v, vs, rfl, gNames_run (is := is) (vs := vs) (σ := σ.set i (some v)) (by simpa using l) q⟩
theorem asgT_run {is : List Nat} (hz : is.length ≤ 100000) {W : WX} {D : Ends} {σ : St} {H : Hp} (h : tS K W (mPutU is ms) D σ H) : tAsg (tTup (tAU K ms)) (gTup K is.length (gNames is)) D σ H := by
  obtain ⟨B, env, Hk, f, env', R, hm, k⟩ := h
  obtain ⟨⟨rs, e1⟩, h1, hm⟩ := Option.bind_eq_some_iff.mp hm
  obtain ⟨e2, h2, hm⟩ := Option.map_eq_some_iff.mp hm
  cases hm
  refine ⟨B, env, Hk, rs, e1, R, h1, fun vs Hk1 H1 R1 s1 o1 => ?_⟩
  obtain ⟨R2, l⟩ := R1.puts o1 h2
  refine ⟨by rw [← l]; exact sz_of hz, fun p hp => ⟨p, vs, rfl, SqT.of upd_same, l.symm, gNames_run l ?_⟩⟩
  exact k _ Hk1 _ (R2.laid hp) s1
theorem vs_asgT {is : List Nat} {kt : Nat} {tpos pt2 : Pos} {ts es : List Expr} {k2} (ha : VAU X es ms) (hg : PGs X ts (gNames is)) (hc : X.calm = true := by rfl) (hn : (assignEach ts X.env).length = is.length := by rfl) (hst : (assignEach ts X.env).findIdx? (·.1) = none := by rfl) (hz : is.length ≤ 100000 := by decide)
    (hs : swapsWithSole [.Tuple ts kt tpos] (.Tuple es k2 pt2) pos.line X.env = pure false := by rfl) (hw : swappedStores [.Tuple ts kt tpos] (.Tuple es k2 pt2) X.env = pure none := by rfl)
    (h1 : (assignEach [.Tuple ts kt tpos] X.env).map (·.2) = [assign (.Tuple ts kt tpos) X.env] := by rfl) : VS X (.Assign [.Tuple ts kt tpos] (.Tuple es k2 pt2) pos) (mPutU is ms) :=
  fun W _ => (ps_asg (pe_tup ha) (pg_tup hc hg hn hst) hs hw h1).imp fun _ _ _ => asgT_run hz
end
/-! ### targets -/
abbrev MG := PyData → Sl → Option Sl
def tG (K : PySem.W.Frag) (js : List Nat) (mg : MG) : TG := fun v σ H Q => ∃ B env Hk d env', Rel K B env σ Hk H ∧ Dv K Hk v d ∧ mg d env = some env' ∧
  ∀ σ' Hk' H', Rel K B env' σ' Hk' H' → KSame Hk Hk' → (∀ i, i ∉ js → σ'[i]? = σ[i]?) → σ'.length = σ.length → Q σ' H'
def mgName (j : Nat) : MG := fun d env => some (env.set j (.val d))
abbrev VG (X : Cx) (e : Expr) (js : List Nat) (mg : MG) : Prop := PG X e (tG X.K js mg)
abbrev MGs := List PyData → Sl → Option Sl
def tGs (K : PySem.W.Frag) (js : List Nat) (mg : MGs) : TGs := fun vs σ H Q => ∃ B env Hk ds env', Rel K B env σ Hk H ∧ DvAll K Hk vs ds ∧ mg ds env = some env' ∧
  ∀ σ' Hk' H', Rel K B env' σ' Hk' H' → KSame Hk Hk' → (∀ i, i ∉ js → σ'[i]? = σ[i]?) → σ'.length = σ.length → Q σ' H'
def mgNil : MGs := fun ds env => match ds with
  | [] => some env
  | _ => none
def mgCons (g : MG) (gs : MGs) : MGs := fun ds env => match ds with
  | d :: ds => (g d env).bind (gs ds)
  | _ => none
def mgTup (gs : MGs) : MG := fun d env => match d with
  | .tuple ds => gs ds env
  | _ => none
section
variable {X : Cx} {K : PySem.W.Frag} {js is : List Nat} {g : MG} {gs : MGs} {pos : Pos}
theorem gname_run {j : Nat} {v : V} {σ : St} {H : Hp} {Q : St → Hp → Prop} (h : tG K [j] (mgName j) v σ H Q) : gName j v σ H Q := by
  obtain ⟨B, env, Hk, d, env', R, hd, hm, k⟩ := h
  cases hm
  exact k _ _ _ (R.setVal hd) (.refl _) (fun i hi => List.getElem?_set_ne (fun z => hi (by simp [z]))) (List.length_set)
theorem vg_name {j : Nat} {x : Str} (hN : X.N.Nodup) (hi : X.N[j]? = some x := by rfl) (hx : Loc X.env.scope x := by first | exact Or.inl rfl | exact Or.inr rfl) (hf : X.fn x = true ∨ X.env.scope.names.lookup x = some .local := by first | exact .inl rfl | exact .inr rfl | assumption) : VG X (.Name x pos) [j] (mgName j) :=
  (pg_name hN hi hx hf).imp fun _ _ _ _ => gname_run
theorem gnil_run {vs : List V} {σ : St} {H : Hp} {Q : St → Hp → Prop} (h : tGs K [] mgNil vs σ H Q) : gNil vs σ H Q := by
  obtain ⟨B, env, Hk, ds, env', R, hd, hm, k⟩ := h
  cases hd with
  | nil =>
    cases hm
    exact ⟨rfl, k σ _ _ R (.refl _) (fun _ _ => rfl) rfl⟩
  | cons _ _ => cases hm
theorem gcons_run {vs : List V} {σ : St} {H : Hp} {Q : St → Hp → Prop} (h : tGs K (js ++ is) (mgCons g gs) vs σ H Q) : gCons (tG K js g) (tGs K is gs) vs σ H Q := by
  obtain ⟨B, env, Hk, ds, env', R, hd, hm, k⟩ := h
  cases hd with
  | nil => cases hm
  | cons h1 h2 =>
    obtain ⟨e1, g1, g2⟩ := Option.bind_eq_some_iff.mp hm
    refine ⟨_, _, rfl, B, env, Hk, _, e1, R, h1, g1, fun σ1 Hk1 H1 R1 s1 d1 l1 => ?_⟩
    refine ⟨B, e1, Hk1, _, env', R1, dvAll_mono s1 _ _ h2, g2, fun σ2 Hk2 H2 R2 s2 d2 l2 => ?_⟩
    refine k σ2 Hk2 H2 R2 (s1.trans s2) (fun i hi => ?_) (l2.trans l1)
    rw [d2 i (fun z => hi (List.mem_append_right _ z)), d1 i (fun z => hi (List.mem_append_left _ z))]
theorem vgs_nil : PGs X [] (tGs X.K [] mgNil) := pgs_nil.imp fun _ _ _ _ => gnil_run
theorem vgs_cons {e : Expr} {es : List Expr} (h1 : VG X e js g) (h2 : PGs X es (tGs X.K is gs)) (hs : (assignEach (e :: es) X.env).map (·.2) = assign e X.env :: (assignEach es X.env).map (·.2) := by rfl) : PGs X (e :: es) (tGs X.K (js ++ is) (mgCons g gs)) :=
  (pgs_cons h1 h2 hs).imp fun _ _ _ _ => gcons_run
theorem mgs_len {n : Nat} {ds : List PyData} {env env' : Sl} (hl : ∀ ds env env', gs ds env = some env' → ds.length = n) (h : gs ds env = some env') : ds.length = n := hl ds env env' h
theorem gtup_run {n : Nat} (hl : ∀ ds env env', gs ds env = some env' → ds.length = n) {v : V} {σ : St} {H : Hp} {Q : St → Hp → Prop} (h : tG K js (mgTup gs) v σ H Q) : gTup K n (tGs K js gs) v σ H Q := by
  obtain ⟨B, env, Hk, d, env', R, hd, hm, k⟩ := h
  cases d with
  | tuple ds =>
    cases hd with
    | tup h1 h2 => exact ⟨_, _, rfl, same_tup R.ex h1, by rw [h2.len]; exact hl _ _ _ hm, B, env, Hk, ds, env', R, h2, hm, k⟩
  | _ => cases hm
theorem mgnil_len : ∀ ds env env', mgNil ds env = some env' → ds.length = 0 := fun ds env env' h => by
  cases ds with
  | nil => rfl
  | cons _ _ => cases h
theorem mgcons_len {n : Nat} (hl : ∀ ds env env', gs ds env = some env' → ds.length = n) : ∀ ds env env', mgCons g gs ds env = some env' → ds.length = n + 1 := fun ds env env' h => by
  cases ds with
  | nil => cases h
  | cons d ds =>
    obtain ⟨e1, g1, g2⟩ := Option.bind_eq_some_iff.mp h
    rw [List.length_cons, hl _ _ _ g2]
theorem vg_tup {es : List Expr} {kk n : Nat} (h : PGs X es (tGs X.K js gs)) (hl : ∀ ds env env', gs ds env = some env' → ds.length = n) (hc : X.calm = true := by rfl) (hn : (assignEach es X.env).length = n := by rfl) (hst : (assignEach es X.env).findIdx? (·.1) = none := by rfl) : VG X (.Tuple es kk pos) js (mgTup gs) :=
  (pg_tup hc h hn hst).imp fun _ _ _ _ => gtup_run hl
end
/-! ### what is walked -/
def IterOk (K : PySem.W.Frag) (Hk0 : Hp) (J : It) (ds : List PyData) : Prop := ∀ (Hk H : Hp), Same Hk0 Hk → Same Hk H → ∀ i, (∀ d, ds[i]? = some d → J.go i H ∧ ∀ x H', J.yld i H x H' → Out K Hk H (.dat d) x H') ∧ (ds.length ≤ i → J.stop i H)
abbrev MI := Sl → Option (List PyData × Sl)
def tI (K : PySem.W.Frag) (m : MI) : TI := fun σ H R => ∃ B env Hk ds env', Rel K B env σ Hk H ∧ m env = some (ds, env') ∧
  ∀ J Hk' H', Rel K B env' σ Hk' H' → KSame Hk Hk' → IterOk K Hk' J ds → R J H'
abbrev VI (X : Cx) (tg e : Expr) (m : MI) : Prop := PI X tg e (tI X.K m)
def forL (g : MG) (b : MS) : List PyData → Sl → Option (Fl × Sl)
  | [], e => some (.nx, e)
  | d :: ds, e => (g d e).bind fun e1 => (b e1).bind fun q => match q.1 with
    | .nx => forL g b ds q.2
    | .ct => forL g b ds q.2
    | .bk => some (.nx, q.2)
    | .rt r => some (.rt r, q.2)
    | .ex C fs => some (.ex C fs, q.2)
def mFor (mi : MI) (g : MG) (b : MS) : MS := fun env => (mi env).bind fun p => forL g b p.1 p.2
section
variable {X : Cx} {K : PySem.W.Frag} {js : List Nat} {g : MG} {b : MS} {mi : MI} {pos : Pos}
theorem drop_cons {α : Type} {l : List α} {i : Nat} {d : α} {r : List α} (h : l.drop i = d :: r) : l[i]? = some d ∧ l.drop (i + 1) = r ∧ i < l.length := by
  have h1 : l[i]? = some d := by
    rw [← List.head?_drop, h]
    rfl
  refine ⟨h1, ?_, (List.getElem?_eq_some_iff.mp h1).1⟩
  rw [← List.drop_drop, h]
  rfl
theorem for_run {W : WX} {D : Ends} {σ : St} {H : Hp} (h : tS K W (mFor mi g b) D σ H) : tFor (tI K mi) (tG K js g) (tS K W b) D σ H := by
  obtain ⟨B, env, Hk, f, env', R, hm, k⟩ := h
  obtain ⟨⟨ds, e1⟩, h1, hm⟩ := Option.bind_eq_some_iff.mp hm
  refine ⟨B, env, Hk, ds, e1, R, h1, fun J Hk1 H1 R1 s1 it => ?_⟩
  refine ⟨fun i m σ H => m = ds.length - i ∧ ∃ e, ∃ Hk2 : Kn, Rel K B e σ Hk2 H ∧ KSame Hk1 Hk2 ∧ forL g b (ds.drop i) e = some (f, env'), ⟨ds.length, by simp, e1, Hk1, R1, .refl _, hm⟩, ?_⟩
  rintro i m σ2 H2 ⟨rfl, e, Hk2, R2, s2, hf⟩
  obtain ⟨go, stop⟩ := it Hk2 H2 s2.s R2.ex i
  cases hd : ds.drop i with
  | nil =>
    rw [hd] at hf
    cases hf
    have hl : ds.length ≤ i := List.drop_eq_nil_iff.mp hd
    exact .inl ⟨stop hl, k σ2 Hk2 H2 R2 (s1.trans s2)⟩
  | cons d r =>
    rw [hd] at hf
    obtain ⟨hi, hr, hlt⟩ := drop_cons hd
    obtain ⟨gi, yi⟩ := go d hi
    obtain ⟨e2, g1, hf⟩ := Option.bind_eq_some_iff.mp hf
    obtain ⟨⟨f1, e3⟩, g2, hf⟩ := Option.bind_eq_some_iff.mp hf
    refine .inr ⟨gi, fun σ' H' => ∃ e, ∃ Hk2 : Kn, Rel K B e σ' Hk2 H' ∧ KSame Hk1 Hk2 ∧ forL g b (ds.drop (i + 1)) e = some (f, env'), fun σ' H' w => ⟨ds.length - (i + 1), by omega, rfl, w⟩, fun x H' y => ?_⟩
    obtain ⟨Hk3, R3, s3, o3⟩ := R2.out (yi x H' y)
    refine ⟨B, e, Hk3, d, e2, R3, o3, g1, fun σ3 Hk4 H4 R4 s4 _ _ => ?_⟩
    refine ⟨B, e2, Hk4, f1, e3, R4, g2, fun σ4 Hk5 H5 R5 s5 => ?_⟩
    have sm := ((s2.trans s3).trans s4).trans s5
    cases f1 with
    | nx =>
      refine ⟨e3, Hk5, R5, sm, ?_⟩
      rw [hr]
      exact hf
    | ct =>
      refine ⟨e3, Hk5, R5, sm, ?_⟩
      rw [hr]
      exact hf
    | bk =>
      cases hf
      exact k σ4 Hk5 H5 R5 (s1.trans sm)
    | rt r =>
      cases hf
      exact k σ4 Hk5 H5 R5 (s1.trans sm)
    | ex C fs =>
      cases hf
      exact k σ4 Hk5 H5 R5 (s1.trans sm)
theorem vs_for {tg iter : Expr} {body : List Stmt} (hp : PassesOwn (model X.prog X.w) X.A X.env X.xe) (hi : VI X tg iter mi) (hg : VG X tg js g) (hb : VSs X body b) (hc : X.calm = true := by rfl)
    (hs : ∀ x, foldedSetIterable iter X.env x = pure x := by intro _; rfl) : VS X (.For tg iter body [] pos) (mFor mi g b) := fun W t => (ps_for hp hc hi hg (hb W t) hs).imp fun _ _ _ => for_run
end
/-! ### while, with so many turns at most -/
def whileL (t : MT) (b : MS) : Nat → Sl → Option (Fl × Sl)
  | 0, _ => none
  | n + 1, e => (t e).bind fun p => if p.1 = true then (b p.2).bind fun q => match q.1 with
    | .nx => whileL t b n q.2
    | .ct => whileL t b n q.2
    | .bk => some (.nx, q.2)
    | .rt r => some (.rt r, q.2)
    | .ex C fs => some (.ex C fs, q.2) else some (.nx, p.2)
def mWhile (n : Nat) (t : MT) (b : MS) : MS := whileL t b n
section
variable {X : Cx} {K : PySem.W.Frag} {t : MT} {b : MS} {pos : Pos}
theorem while_run {n : Nat} {W : WX} {D : Ends} {σ : St} {H : Hp} (h : tS K W (mWhile n t b) D σ H) : tWhile (tT K t) (tS K W b) D σ H := by
  obtain ⟨B, env, Hk, f, env', R, hm, k⟩ := h
  refine ⟨fun m σ H => ∃ e, ∃ Hk2 : Kn, Rel K B e σ Hk2 H ∧ KSame Hk Hk2 ∧ whileL t b m e = some (f, env'), ⟨n, env, Hk, R, .refl _, hm⟩, ?_⟩
  rintro m σ2 H2 ⟨e, Hk2, R2, s2, hf⟩
  cases m with
  | zero => cases hf
  | succ m =>
    obtain ⟨⟨c, e1⟩, g1, hf⟩ := Option.bind_eq_some_iff.mp hf
    refine ⟨B, e, Hk2, c, e1, R2, g1, fun Hk3 H3 R3 s3 => ?_⟩
    cases c with
    | false =>
      cases hf
      exact k σ2 Hk3 H3 R3 (s2.trans s3)
    | true =>
      obtain ⟨⟨f1, e2⟩, g2, hf⟩ := Option.bind_eq_some_iff.mp hf
      refine ⟨fun σ' H' => ∃ e, ∃ Hk2 : Kn, Rel K B e σ' Hk2 H' ∧ KSame Hk Hk2 ∧ whileL t b m e = some (f, env'), fun σ' H' w => ⟨m, Nat.lt_succ_self _, w⟩, ?_⟩
      refine ⟨B, e1, Hk3, f1, e2, R3, g2, fun σ4 Hk5 H5 R5 s5 => ?_⟩
      have sm := (s2.trans s3).trans s5
      cases f1 with
      | nx => exact ⟨e2, Hk5, R5, sm, hf⟩
      | ct => exact ⟨e2, Hk5, R5, sm, hf⟩
      | bk =>
        cases hf
        exact k σ4 Hk5 H5 R5 sm
      | rt r =>
        cases hf
        exact k σ4 Hk5 H5 R5 sm
      | ex C fs =>
        cases hf
        exact k σ4 Hk5 H5 R5 sm
theorem vs_while (n : Nat) {c : Expr} {body : List Stmt} (hp : PassesOwn (model X.prog X.w) X.A X.env X.xe) (hc : VT X c t) (hb : VSs X body b) : VS X (.While c body [] pos) (mWhile n t b) := fun W t => (ps_while hp hc (hb W t)).imp fun _ _ _ => while_run
end
end Cm
namespace Cm
open PySem L2
/-! ### comprehensions -/
def wipeS (env : Sl) : List Nat → Sl
  | [] => env
  | v :: vs => (wipeS env vs).set v .no
def lcL (g : MG) (t : MT) (me : ME) (vs : List Nat) : List PyData → Sl → List PyData → Option (List PyData × Sl)
  | [], e, acc => some (acc, e)
  | d :: ds, e, acc => (g d e).bind fun e1 => (t e1).bind fun p => if p.1 = true then (mFrz me p.2).bind fun q => match q.1 with
    | .dat x => lcL g t me vs ds (wipeS q.2 vs) (acc ++ [x])
    | _ => none else lcL g t me vs ds (wipeS p.2 vs) acc
def mLc (mi : MI) (g : MG) (t : MT) (me : ME) (vs : List Nat) : ME := fun env => (mi env).bind fun p => if p.1.length ≤ 100000 then (lcL g t me vs p.1 (wipeS p.2 vs) []).map fun q => (.new (.lst q.1), q.2) else none
section
variable {X : Cx} {K : PySem.W.Frag} {js : List Nat} {g : MG} {t : MT} {me : ME} {mi : MI} {pos : Pos}
theorem Rel.wiped {B : Fb} {env : Sl} {σ : St} {Hk : Kn} {H : Hp} (R : Rel K B env σ Hk H) : ∀ vs : List Nat, Rel K B (wipeS env vs) (wipe σ vs) Hk H
  | [] => R
  | v :: vs => (Rel.wiped R vs).setNo
theorem wipeS_no {env : Sl} {i : Nat} {s : Slot} : ∀ {vs : List Nat}, i ∈ vs → (wipeS env vs)[i]? = some s → s = .no
  | v :: vs, h, e => by
    rcases set_get (show ((wipeS env vs).set v .no)[i]? = some s from e) with ⟨_, z⟩ | ⟨ne, z⟩
    · exact z
    · rcases List.mem_cons.mp h with q | q
      · exact absurd q ne
      · exact wipeS_no q z
theorem wipe_out {σ : St} {i : Nat} : ∀ {vs : List Nat}, i ∉ vs → (wipe σ vs)[i]? = σ[i]?
  | [], _ => rfl
  | v :: vs, h => by
    show ((wipe σ vs).set v none)[i]? = _
    rw [List.getElem?_set_ne (fun e => h (by simp [e]))]
    exact wipe_out (fun z => h (List.mem_cons_of_mem _ z))
theorem wipe_in {σ : St} {i : Nat} : ∀ {vs : List Nat}, i ∈ vs → i < σ.length → (wipe σ vs)[i]? = some none
  | v :: vs, h, hl => by
    show ((wipe σ vs).set v none)[i]? = _
    by_cases e : v = i
    · subst e
      rw [List.getElem?_set_self (by rw [wipe_length]; exact hl)]
    · rw [List.getElem?_set_ne e]
      rcases List.mem_cons.mp h with q | q
      · exact absurd q.symm e
      · exact wipe_in q hl
theorem wipe_ext {σ σ' : St} {vs : List Nat} (h : ∀ i, i ∉ vs → σ'[i]? = σ[i]?) (hl : σ'.length = σ.length) : wipe σ' vs = wipe σ vs := by
  refine List.ext_getElem? fun i => ?_
  by_cases hi : i ∈ vs
  · by_cases hlt : i < σ.length
    · rw [wipe_in hi hlt, wipe_in hi (by omega)]
    · rw [List.getElem?_eq_none (by rw [wipe_length]; omega), List.getElem?_eq_none (by rw [wipe_length]; omega)]
  · rw [wipe_out hi, wipe_out hi, h i hi]
theorem Rel.unwiped {B : Fb} {env : Sl} {σ : St} {Hk : Kn} {H : Hp} {vs : List Nat} (R : Rel K B (wipeS env vs) (wipe σ vs) Hk H) : Rel K B (wipeS env vs) σ Hk H where
  ex := R.ex
  kn := R.kn
  fr := R.fr
  kp := R.kp
  oin := R.oin
  o0 := R.o0
  len := by rw [R.len, wipe_length]
  slot := fun i s hi => by
    by_cases h : i ∈ vs
    · rw [wipeS_no h hi]
      obtain ⟨o, h1, _⟩ := R.slot i s hi
      have hl : i < σ.length := by
        have := (List.getElem?_eq_some_iff.mp h1).1
        rw [wipe_length] at this
        exact this
      exact ⟨σ[i], List.getElem?_eq_getElem hl, trivial⟩
    · obtain ⟨o, h1, h2⟩ := R.slot i s hi
      rw [wipe_out h] at h1
      exact ⟨o, h1, h2⟩
  sok := R.sok
  pin := R.pin
  psep := fun i s a n hi ms e1 => by
    have n1 : i ∉ vs := fun z => by
      rw [wipeS_no z hi] at ms
      exact ms
    exact R.psep i s a n hi ms (by rw [wipe_out n1]; exact e1)
  sep := fun i j s u a hi hj ms mu e1 e2 => by
    have n1 : i ∉ vs := fun z => by
      rw [wipeS_no z hi] at ms
      exact ms
    have n2 : j ∉ vs := fun z => by
      rw [wipeS_no z hj] at mu
      exact mu
    exact R.sep i j s u a hi hj ms mu (by rw [wipe_out n1]; exact e1) (by rw [wipe_out n2]; exact e2)
theorem lcL_wiped {vs : List Nat} : ∀ {ds : List PyData} {e : Sl} {acc : List PyData} {out : List PyData} {env' : Sl}, lcL g t me vs ds (wipeS e vs) acc = some (out, env') → ∃ e', env' = wipeS e' vs
  | [], e, acc, out, env', h => by
    cases h
    exact ⟨e, rfl⟩
  | d :: ds, e, acc, out, env', h => by
    obtain ⟨e1, g1, h⟩ := Option.bind_eq_some_iff.mp h
    obtain ⟨⟨b, e2⟩, g2, h⟩ := Option.bind_eq_some_iff.mp h
    cases b with
    | false => exact lcL_wiped (show lcL g t me vs ds (wipeS e2 vs) acc = _ from h)
    | true =>
      obtain ⟨⟨r, e3⟩, g3, h⟩ := Option.bind_eq_some_iff.mp (show ((mFrz me e2).bind _) = _ from h)
      cases r with
      | dat x => exact lcL_wiped (show lcL g t me vs ds (wipeS e3 vs) _ = _ from h)
      | new c => cases h
      | slt i => cases h
      | pv p => cases h
theorem lc_run {vs : List Nat} (hj : ∀ j, j ∈ js → j ∈ vs) {σ : St} {H : Hp} {Q : VK} (h : tE K (mLc mi g t me vs) σ H Q) : tLc (tI K mi) (tG K js g) (tT K t) (tE K (mFrz me)) vs σ H Q := by
  obtain ⟨B, env, Hk, res, env', R, hm, k⟩ := h
  obtain ⟨⟨ds, e1⟩, h1, hm⟩ := Option.bind_eq_some_iff.mp hm
  by_cases hz : ds.length ≤ 100000
  · have hm : ((lcL g t me vs ds (wipeS e1 vs) []).map fun q => (Res.new (Cell.lst q.1), q.2)) = some (res, env') := by
      have hm : (if ds.length ≤ 100000 then _ else _) = _ := hm
      rw [if_pos hz] at hm
      exact hm
    obtain ⟨⟨out, e2⟩, h2, hm⟩ := Option.map_eq_some_iff.mp hm
    cases hm
    refine ⟨B, env, Hk, ds, e1, R, h1, fun J Hk1 H1 R1 s1 it p hp => ?_⟩
    obtain ⟨ew, rfl⟩ := lcL_wiped h2
    refine ⟨fun i m H => m = ds.length - i ∧ ∃ e, ∃ Hk2 : Kn, ∃ xs acc, Rel K B (wipeS e vs) (wipe σ vs) Hk2 H ∧ KSame Hk1 Hk2 ∧ H p = some (.lst xs) ∧ Hk2 p = none ∧ (∀ (n : Nat), Hk2.P n ≠ some p) ∧ (∀ (j : Nat) s, (wipeS e vs)[j]? = some s → s.mut → (wipe σ vs)[j]? ≠ some (some (V.ref p))) ∧ DvAll K Hk2 xs acc ∧ acc.length ≤ i ∧ lcL g t me vs (ds.drop i) (wipeS e vs) acc = some (out, wipeS ew vs),
      ⟨ds.length, by simp, e1, Hk1, [], [], (R1.wiped vs).laid hp, .refl _, upd_same, R1.kfree hp, R1.pfree hp, fun j s a b => (R1.wiped vs).mutNe hp a b, .nil, Nat.zero_le _, h2⟩, ?_⟩
    have h0 : B.H0 p = none := R1.fresh0 hp
    rintro i m H2 ⟨rfl, e, Hk2, xs, acc, R2, s2, hpx, hkp, hPp, hnm, hda, hal, hf⟩
    obtain ⟨go, stop⟩ := it Hk2 H2 s2 R2.ex i
    cases hd : ds.drop i with
    | nil =>
      rw [hd] at hf
      have hf : some (acc, wipeS e vs) = some (out, wipeS ew vs) := hf
      obtain ⟨rfl, he⟩ : acc = out ∧ wipeS e vs = wipeS ew vs := by
        have := Option.some.inj hf
        exact ⟨congrArg Prod.fst this, congrArg Prod.snd this⟩
      have hl : ds.length ≤ i := List.drop_eq_nil_iff.mp hd
      refine .inl ⟨stop hl, k _ Hk2 H2 (he ▸ R2.unwiped) (s1.trans s2) ⟨p, rfl, hkp, h0, ⟨xs, hpx, hda⟩, hPp, ?_⟩⟩
      rw [← he]
      intro j s hjs hms z
      have nj : j ∉ vs := fun z => by
        rw [wipeS_no z hjs] at hms
        exact hms
      exact hnm j s hjs hms (by rw [wipe_out nj]; exact z)
    | cons d r =>
      rw [hd] at hf
      obtain ⟨hi, hr, hlt⟩ := drop_cons hd
      obtain ⟨gi, yi⟩ := go d hi
      obtain ⟨e2, g1, hf⟩ := Option.bind_eq_some_iff.mp hf
      obtain ⟨⟨b, e3⟩, g2, hf⟩ := Option.bind_eq_some_iff.mp hf
      have G := R2.guard hpx hkp h0 hPp hnm
      refine .inr ⟨gi, fun H' => ∃ e, ∃ Hk2 : Kn, ∃ xs acc, Rel K B (wipeS e vs) (wipe σ vs) Hk2 H' ∧ KSame Hk1 Hk2 ∧ H' p = some (.lst xs) ∧ Hk2 p = none ∧ (∀ (n : Nat), Hk2.P n ≠ some p) ∧ (∀ (j : Nat) s, (wipeS e vs)[j]? = some s → s.mut → (wipe σ vs)[j]? ≠ some (some (V.ref p))) ∧ DvAll K Hk2 xs acc ∧ acc.length ≤ i + 1 ∧ lcL g t me vs (ds.drop (i + 1)) (wipeS e vs) acc = some (out, wipeS ew vs),
        fun H' w => ⟨ds.length - (i + 1), by omega, rfl, w⟩, fun x H' y => ?_⟩
      obtain ⟨Hk3, G3, s3, o3⟩ := G.out (yi x H' y)
      refine ⟨_, _, Hk3, d, e2, G3, o3, g1, fun σ4 Hk4 H4 G4 s4 d4 l4 => ⟨?_, ?_⟩⟩
      · rw [wipe_ext (σ := wipe σ vs) (fun i hi => d4 i fun z => hi (hj i z)) l4]
        exact wipe_ext (fun i hi => wipe_out hi) (wipe_length _ _)
      have wq : wipe σ4 vs = wipe σ vs := by
        rw [wipe_ext (σ := wipe σ vs) (fun i hi => d4 i fun z => hi (hj i z)) l4]
        exact wipe_ext (fun i hi => wipe_out hi) (wipe_length _ _)
      have s3 := s3.trans s4
      refine ⟨_, e2, Hk4, b, e3, G4, g2, fun Hk5 H5 G5 s5 => ?_⟩
      have fin : ∀ {e : Sl} {Hk6 : Kn} {H6 : Hp}, Rel K (B.guard p (.lst xs)) e σ4 Hk6 H6 → Rel K B (wipeS e vs) (wipe σ vs) Hk6 H6 ∧ H6 p = some (.lst xs) ∧ Hk6 p = none ∧ (∀ (n : Nat), Hk6.P n ≠ some p) ∧ ∀ (j : Nat) s, (wipeS e vs)[j]? = some s → s.mut → (wipe σ vs)[j]? ≠ some (some (V.ref p)) := fun {e Hk6 H6} G6 => by
        have Gw := G6.wiped vs
        rw [wq] at Gw
        exact Gw.unguard h0 (R1.kn.free (R1.kfree hp)) (R1.nO h0)
      cases b with
      | false =>
        have hf : lcL g t me vs r (wipeS e3 vs) acc = some (out, wipeS ew vs) := hf
        obtain ⟨F1, F2, F3, F5, F4⟩ := fin G5
        show ∃ e Hk2 xs acc, _
        exact ⟨e3, Hk5, xs, acc, F1, (s2.trans s3).trans s5, F2, F3, F5, F4, dvAll_mono (s3.trans s5) _ _ hda, by omega, by rw [hr]; exact hf⟩
      | true =>
        have hf : ((mFrz me e3).bind _) = some (out, wipeS ew vs) := hf
        obtain ⟨⟨rx, e4⟩, g3, hf⟩ := Option.bind_eq_some_iff.mp hf
        show tE K (mFrz me) σ4 H5 _
        refine ⟨_, e3, Hk5, rx, e4, G5, g3, fun y6 Hk6 H6 G6 s6 o6 => ?_⟩
        obtain ⟨F1, F2, F3, F5, F4⟩ := fin G6
        cases rx with
        | new c => cases hf
        | slt i => cases hf
        | pv p => cases hf
        | dat dx =>
          have hf : lcL g t me vs r (wipeS e4 vs) (acc ++ [dx]) = some (out, wipeS ew vs) := hf
          have sm := (s3.trans s5).trans s6
          refine ⟨xs, F2, ?_, e4, Hk6, xs ++ [y6], acc ++ [dx], F1.other F3 h0 F5 (fun x z => by rw [F2] at z; cases z) F4, s2.trans sm, upd_same, F3, F5, F4, DvAll.append (dvAll_mono sm _ _ hda) (.cons o6 .nil), ?_, ?_⟩
          · rw [hda.len]
            exact Nat.lt_of_lt_of_le (show acc.length < 200000 by omega) (by decide)
          · rw [List.length_append]
            show acc.length + 1 ≤ i + 1
            omega
          · rw [hr]
            exact hf
  · have hm : (if ds.length ≤ 100000 then _ else _) = _ := hm
    rw [if_neg hz] at hm
    cases hm
def mYes : MT := fun env => some (true, env)
abbrev VTs (X : Cx) (ifs : List Expr) (t : MT) : Prop := PTs X ifs (tT X.K t)
theorem _root_.L2.PTs.imp {X : Cx} {e : List Expr} {t t' : TT} (h : PTs X e t) (k : ∀ σ H Q, t' σ H Q → t σ H Q) : PTs X e t' := ⟨fun pins s σ H Q I q => h.run pins s σ H Q I (k σ H Q q)⟩
theorem vts_nil : VTs X [] mYes := pts_nil.imp fun _ _ _ h => by
  obtain ⟨B, env, Hk, b, env', R, hm, k⟩ := h
  cases hm
  exact k Hk _ R (.refl _)
theorem vts_one {c : Expr} (h : VT X c t) : VTs X [c] t := pts_one h
theorem ve_lc {elt tg iter : Expr} {ifs : List Expr} {scope : Scope} {own : List (Str × Nat)} (hN : X.N.Nodup) (hi : VI X tg iter mi) (ok : BlkOk X.N X.env.scope scope own)
    (hg : ∀ (s : Shared) (H : Hp) (C : Addr) (cl : List (Str × Addr)) (fp : List Addr), VG (X.blk s H scope (compEnvC scope cl C X.env) fp) tg js g) (ht : ∀ (s : Shared) (H : Hp) (C : Addr) (cl : List (Str × Addr)) (fp : List Addr), VTs (X.blk s H scope (compEnvC scope cl C X.env) fp) ifs t)
    (he : ∀ (s : Shared) (H : Hp) (C : Addr) (cl : List (Str × Addr)) (fp : List Addr), VE (X.blk s H scope (compEnvC scope cl C X.env) fp) elt me) (hj : ∀ j, j ∈ js → j ∈ own.map (·.2)) (hc : X.calm = true := by rfl) (hs : ∀ x, foldedSetIterable iter X.env x = pure x := by intro _; rfl) :
    VE X (.ListComp elt [⟨tg, iter, ifs, 0⟩] scope pos) (mLc mi g t me (own.map (·.2))) :=
  (pe_lc hc hN hi ok hg ht (fun s H C cl fp => ve_frz (he s H C cl fp)) hs).imp fun _ _ _ => lc_run hj
theorem vs_setLc {i : Nat} {y : Str} {py spos : Pos} {elt tg iter : Expr} {ifs : List Expr} {scope : Scope} {own : List (Str × Nat)} (hN : X.N.Nodup) (hi : VI X tg iter mi) (ok : BlkOk X.N X.env.scope scope own)
    (hg : ∀ (s : Shared) (H : Hp) (C : Addr) (cl : List (Str × Addr)) (fp : List Addr), VG (X.blk s H scope (compEnvC scope cl C X.env) fp) tg js g) (ht : ∀ (s : Shared) (H : Hp) (C : Addr) (cl : List (Str × Addr)) (fp : List Addr), VTs (X.blk s H scope (compEnvC scope cl C X.env) fp) ifs t)
    (he : ∀ (s : Shared) (H : Hp) (C : Addr) (cl : List (Str × Addr)) (fp : List Addr), VE (X.blk s H scope (compEnvC scope cl C X.env) fp) elt me) (hj : ∀ j, j ∈ js → j ∈ own.map (·.2))
    (hsw : swapsWith (.ListComp elt [⟨tg, iter, ifs, 0⟩] scope pos) (some (.Name y py)) spos.line X.env = pure true) (hy : X.N[i]? = some y := by rfl) (hyl : X.env.scope.names.lookup y = some .local := by rfl) (hc : X.calm = true := by rfl) (hs : ∀ x, foldedSetIterable iter X.env x = pure x := by intro _; rfl) :
    VS X (.Assign [.Name y py] (.ListComp elt [⟨tg, iter, ifs, 0⟩] scope pos) spos) (mSet i (mLc mi g t me (own.map (·.2)))) :=
  fun W _ => (ps_setLc hc hN hy hyl hsw hi ok hg ht (fun s H C cl fp => ve_frz (he s H C cl fp)) hs).imp fun D σ H h => lc_run hj (set_run h)
end
end Cm
namespace Cm
open PySem PySem.Spec PyProof.Rows L2
abbrev FM := Sl → Option (Res × Sl)
def ArgOk (K : PySem.W.Frag) (Hk H : Hp) (s : Slot) (v : V) : Prop := match s with
  | .val d => Dv K Hk v d
  | .io _ c => ∃ a, v = .ref a ∧ Hk a = none ∧ CellAt K Hk H a c
  | .scr ns => ∃ a, v = .ref a ∧ SqL K Hk a (ns.map V.int)
  | _ => False
structure ArgsOk (K : PySem.W.Frag) (Hk H : Hp) (ins : Sl) (vs : List V) : Prop where
  len : ins.length = vs.length
  arg : ∀ (i : Nat) s v, ins[i]? = some s → vs[i]? = some v → ArgOk K Hk H s v
  ix : ∀ (i k : Nat) c, ins[i]? = some (.io k c) → k = i
  sep : ∀ (i j k l : Nat) c c' a, ins[i]? = some (.io k c) → ins[j]? = some (.io l c') → vs[i]? = some (V.ref a) → vs[j]? = some (V.ref a) → i = j
def ioA (ins : Sl) (vs : List V) (k : Nat) : Option Addr := match ins[k]?, vs[k]? with
  | some (.io _ _), some (.ref a) => some a
  | _, _ => none
def FRes (K : PySem.W.Frag) (H Hk' H' : Hp) (r : Res) (v : V) : Prop := match r with
  | .dat d => Dv K Hk' v d
  | .new c => ∃ a, v = .ref a ∧ Hk' a = none ∧ H a = none ∧ CellAt K Hk' H' a c
  | _ => False
structure PostF (K : PySem.W.Frag) (Hk H : Hp) (ins : Sl) (vs : List V) (outs : Sl) (r : Res) (v : V) (Hk' H' : Hp) : Prop where
  kn : Same Hk Hk'
  ex : Same Hk' H'
  fr : ∀ a, Hk' a ≠ none → Hk a = none → H a = none
  kp : ∀ a o, H a = some o → (∀ k, ioA ins vs k ≠ some a) → H' a = some o
  io : ∀ k a, ioA ins vs k = some a → ∃ c', outs[k]? = some (.io k c') ∧ Hk' a = none ∧ CellAt K Hk' H' a c'
  res : FRes K H Hk' H' r v
def spF (K : PySem.W.Frag) (fm : FM) : Sp := fun vs H Q _ => ∃ Hk ins r outs, Same Hk H ∧ ArgsOk K Hk H ins vs ∧ fm ins = some (r, outs) ∧ ∀ v Hk' H', PostF K Hk H ins vs outs r v Hk' H' → Q v H'
def ioKept : Sl → Sl → Bool
  | .io k _ :: s, .io l _ :: t => k == l && ioKept s t
  | .io _ _ :: _, _ => false
  | _ :: s, _ :: t => ioKept s t
  | _ :: s, [] => ioKept s []
  | [], _ => true
def finR : Fl × Sl → Option Res
  | (.nx, _) => some (.dat .none)
  | (.rt (.dat d), _) => some (.dat d)
  | (.rt (.new c), _) => some (.new c)
  | (.rt (.pv p), e) => (p.deep (sto e) 9).map .dat
  | (.rt (.slt i), e) => match e[i]? with
    | some (.val d) => some (.dat d)
    | some (.own c) => some (.new c)
    | _ => none
  | _ => none
def fmOf (np n : Nat) (mb : MS) : FM := fun ins => if ins.length = np then (mb (ins ++ List.replicate (n - np) .no)).bind fun p => (finR p).bind fun r => if ioKept ins p.2 = true then some (r, p.2.take np) else none else none
theorem ioKept_get : ∀ {s t : Sl} {i k : Nat} {c : Cell}, ioKept s t = true → s[i]? = some (.io k c) → ∃ c', t[i]? = some (.io k c')
  | .io k _ :: s, .io l c' :: t, 0, k', c, h, e => by
    simp at e
    simp only [ioKept, Bool.and_eq_true, beq_iff_eq] at h
    exact ⟨c', by rw [← e.1, h.1]; rfl⟩
  | .io k _ :: s, .io l c' :: t, i + 1, k', c, h, e => by
    simp only [ioKept, Bool.and_eq_true] at h
    obtain ⟨z, q⟩ := ioKept_get (i := i) h.2 (by simpa using e)
    exact ⟨z, by simpa using q⟩
  | .io k _ :: s, .no :: t, _, _, _, h, e => by cases h
  | .io k _ :: s, .val _ :: t, _, _, _, h, e => by cases h
  | .io k _ :: s, .own _ :: t, _, _, _, h, e => by cases h
  | .io k _ :: s, .scr _ :: t, _, _, _, h, e => by cases h
  | .io k _ :: s, .pin _ :: t, _, _, _, h, e => by cases h
  | .io k _ :: s, .pv _ :: t, _, _, _, h, e => by cases h
  | .io k _ :: s, .sto _ :: t, _, _, _, h, e => by cases h
  | .io k _ :: s, [], _, _, _, h, e => by cases h
  | .no :: s, x :: t, 0, _, _, h, e => by simp at e
  | .val _ :: s, x :: t, 0, _, _, h, e => by simp at e
  | .own _ :: s, x :: t, 0, _, _, h, e => by simp at e
  | .scr _ :: s, x :: t, 0, _, _, h, e => by simp at e
  | .pin _ :: s, x :: t, 0, _, _, h, e => by simp at e
  | .sto _ :: s, x :: t, 0, _, _, h, e => by simp at e
  | .pv _ :: s, x :: t, 0, _, _, h, e => by simp at e
  | .no :: s, x :: t, i + 1, _, _, h, e => by
    obtain ⟨z, q⟩ := ioKept_get (s := s) (t := t) (i := i) h (by simpa using e)
    exact ⟨z, by simpa using q⟩
  | .val _ :: s, x :: t, i + 1, _, _, h, e => by
    obtain ⟨z, q⟩ := ioKept_get (s := s) (t := t) (i := i) h (by simpa using e)
    exact ⟨z, by simpa using q⟩
  | .own _ :: s, x :: t, i + 1, _, _, h, e => by
    obtain ⟨z, q⟩ := ioKept_get (s := s) (t := t) (i := i) h (by simpa using e)
    exact ⟨z, by simpa using q⟩
  | .scr _ :: s, x :: t, i + 1, _, _, h, e => by
    obtain ⟨z, q⟩ := ioKept_get (s := s) (t := t) (i := i) h (by simpa using e)
    exact ⟨z, by simpa using q⟩
  | .pin _ :: s, x :: t, i + 1, _, _, h, e => by
    obtain ⟨z, q⟩ := ioKept_get (s := s) (t := t) (i := i) h (by simpa using e)
    exact ⟨z, by simpa using q⟩
  | .sto _ :: s, x :: t, i + 1, _, _, h, e => by
    obtain ⟨z, q⟩ := ioKept_get (s := s) (t := t) (i := i) h (by simpa using e)
    exact ⟨z, by simpa using q⟩
  | .pv _ :: s, x :: t, i + 1, _, _, h, e => by
    obtain ⟨z, q⟩ := ioKept_get (s := s) (t := t) (i := i) h (by simpa using e)
    exact ⟨z, by simpa using q⟩
  | .no :: s, [], 0, _, _, h, e => by simp at e
  | .val _ :: s, [], 0, _, _, h, e => by simp at e
  | .own _ :: s, [], 0, _, _, h, e => by simp at e
  | .scr _ :: s, [], 0, _, _, h, e => by simp at e
  | .pin _ :: s, [], 0, _, _, h, e => by simp at e
  | .sto _ :: s, [], 0, _, _, h, e => by simp at e
  | .pv _ :: s, [], 0, _, _, h, e => by simp at e
  | .no :: s, [], i + 1, _, _, h, e => by
    obtain ⟨z, q⟩ := ioKept_get (s := s) (t := []) (i := i) h (by simpa using e)
    simp at q
  | .val _ :: s, [], i + 1, _, _, h, e => by
    obtain ⟨z, q⟩ := ioKept_get (s := s) (t := []) (i := i) h (by simpa using e)
    simp at q
  | .own _ :: s, [], i + 1, _, _, h, e => by
    obtain ⟨z, q⟩ := ioKept_get (s := s) (t := []) (i := i) h (by simpa using e)
    simp at q
  | .scr _ :: s, [], i + 1, _, _, h, e => by
    obtain ⟨z, q⟩ := ioKept_get (s := s) (t := []) (i := i) h (by simpa using e)
    simp at q
  | .pin _ :: s, [], i + 1, _, _, h, e => by
    obtain ⟨z, q⟩ := ioKept_get (s := s) (t := []) (i := i) h (by simpa using e)
    simp at q
  | .sto _ :: s, [], i + 1, _, _, h, e => by
    obtain ⟨z, q⟩ := ioKept_get (s := s) (t := []) (i := i) h (by simpa using e)
    simp at q
  | .pv _ :: s, [], i + 1, _, _, h, e => by
    obtain ⟨z, q⟩ := ioKept_get (s := s) (t := []) (i := i) h (by simpa using e)
    simp at q
  | [], _, i, _, _, _, e => by simp at e
section
variable {P : Program} {w : World} {K : PySem.W.Frag} {mg : Str → Option Value} {base : Heap}
theorem ioA_of {ins : Sl} {vs : List V} {k : Nat} {a : Addr} (h : ioA ins vs k = some a) : ∃ l c, ins[k]? = some (.io l c) ∧ vs[k]? = some (.ref a) := by
  unfold ioA at h
  split at h
  · rename_i l c b e1 e2
    cases h
    exact ⟨l, c, e1, e2⟩
  · cases h
theorem ioA_is {ins : Sl} {vs : List V} {k l : Nat} {c : Cell} {a : Addr} (h : ins[k]? = some (.io l c)) (h' : vs[k]? = some (.ref a)) : ioA ins vs k = some a := by
  unfold ioA
  rw [h, h']
theorem start_get {N : List Str} {vs : List V} {i : Nat} {v : V} (h : vs[i]? = some v) : (L2.start N vs)[i]? = some (some v) := by
  unfold L2.start
  rw [List.getElem?_append_left (by rw [List.length_map]; exact (List.getElem?_eq_some_iff.mp h).1), List.getElem?_map, h]
  rfl
theorem start_len {N : List Str} {vs : List V} (h : vs.length ≤ N.length) : (L2.start N vs).length = N.length := by
  unfold L2.start
  rw [List.length_append, List.length_map, List.length_replicate]
  omega
theorem ArgsOk.rel {Hk H : Hp} {ins : Sl} {vs : List V} {N : List Str} (A : ArgsOk K Hk H ins vs) (s : Same Hk H) (hl : vs.length ≤ N.length) :
    Rel K ⟨⟨Hk, fun _ => none⟩, H, ioA ins vs, fun _ => none, fun _ => False⟩ (ins ++ List.replicate (N.length - ins.length) .no) (L2.start N vs) ⟨Hk, fun _ => none⟩ H := by
  have io : ∀ a, (⟨⟨Hk, fun _ => none⟩, H, ioA ins vs, fun _ => none, fun _ => False⟩ : Fb).io a → H a ≠ none ∧ Hk a = none := fun a h => by
    obtain ⟨k, h⟩ := h.resolve_right (fun z => z)
    obtain ⟨l, c, e1, e2⟩ := ioA_of h
    obtain ⟨b, e3, q1, q2⟩ := A.arg k _ _ e1 e2
    cases e3
    obtain ⟨o, ho⟩ := q2.there
    exact ⟨ne_none ho, q1⟩
  have cut : ∀ (i : Nat) s, (ins ++ List.replicate (N.length - ins.length) Slot.no)[i]? = some s → (ins[i]? = some s ∧ i < vs.length) ∨ s = .no := fun i s h => by
    by_cases hi : i < ins.length
    · rw [List.getElem?_append_left hi] at h
      exact .inl ⟨h, by rw [← A.len]; exact hi⟩
    · rw [List.getElem?_append_right (by omega), List.getElem?_replicate] at h
      split at h
      · cases h
        exact .inr rfl
      · cases h
  refine ⟨s, .refl _, fun a h1 h2 => absurd h2 h1, fun a o h _ => h, io, fun a h => (io a h).1, ?_, fun i s h => ?_, fun i j s t a h1 h2 m1 m2 e1 e2 => ?_, fun M h => ?_, (fun n a h => by cases h), (fun _ _ _ _ _ _ _ h => by cases h)⟩
  · rw [List.length_append, List.length_replicate, start_len hl, A.len]
    omega
  · rcases cut i s h with ⟨q, hi⟩ | rfl
    · have hv : vs[i]? = some vs[i] := List.getElem?_eq_getElem hi
      refine ⟨some vs[i], start_get hv, ?_⟩
      have z := A.arg i s _ q hv
      cases s with
      | no => trivial
      | val d => exact ⟨_, rfl, z⟩
      | own c => cases z
      | scr ns =>
        obtain ⟨a, e1, q1⟩ := z
        exact ⟨a, by rw [e1], q1⟩
      | pin a => cases z
      | pv p => cases z
      | sto M => cases z
      | io k c =>
        obtain ⟨a, e1, q1, q2⟩ := z
        refine ⟨a, by rw [e1], q1, ?_, q2⟩
        have := A.ix i k c q
        subst this
        exact ioA_is q (by rw [hv, e1])
    · have hlt : i < (L2.start N vs).length := by
        have := (List.getElem?_eq_some_iff.mp h).1
        rw [List.length_append, List.length_replicate, A.len] at this
        rw [start_len hl]
        omega
      exact ⟨_, List.getElem?_eq_getElem hlt, trivial⟩
  · rcases cut i s h1 with ⟨q1, hi⟩ | rfl
    · rcases cut j t h2 with ⟨q2, hj⟩ | rfl
      · have v1 : vs[i]? = some vs[i] := List.getElem?_eq_getElem hi
        have v2 : vs[j]? = some vs[j] := List.getElem?_eq_getElem hj
        have g1 := start_get (N := N) v1
        have g2 := start_get (N := N) v2
        rw [e1] at g1
        rw [e2] at g2
        have w1 : vs[i]? = some (.ref a) := by rw [v1]; exact congrArg some (Option.some.inj (Option.some.inj g1)).symm
        have w2 : vs[j]? = some (.ref a) := by rw [v2]; exact congrArg some (Option.some.inj (Option.some.inj g2)).symm
        cases s with
        | no => cases m1
        | val d => cases m1
        | scr d => cases m1
        | pin a => cases m1
        | pv p => cases m1
        | sto M => cases m1
        | own c => exact False.elim (A.arg i _ _ q1 w1)
        | io k c =>
          cases t with
          | no => cases m2
          | val d => cases m2
          | scr d => cases m2
          | pin a => cases m2
          | pv p => cases m2
          | sto M => cases m2
          | own c => exact False.elim (A.arg j _ _ q2 w2)
          | io l c' => exact A.sep i j k l c c' a q1 q2 w1 w2
      · cases m2
    · cases m1
  · rcases cut _ _ h with ⟨q, hi⟩ | z
    · exact False.elim (A.arg _ _ _ q (List.getElem?_eq_getElem hi))
    · cases z
theorem spF_len' {np : Nat} {fm : FM} (hnp : ∀ ins r, fm ins = some r → ins.length = np) (vs : List V) (H : Hp) (Q : VK) (E : XK) (h : spF K fm vs H Q E) : vs.length = np := by
  obtain ⟨Hk, ins, r, outs, _, hA, hf, _⟩ := h
  rw [← hA.len, hnp _ _ hf]
theorem fmOf_len {np n : Nat} {mb : MS} (ins : Sl) (r : Res × Sl) (h : fmOf np n mb ins = some r) : ins.length = np := by
  unfold fmOf at h
  by_cases hl : ins.length = np
  · exact hl
  · rw [if_neg hl] at h
    cases h
theorem spF_len {N ps : List Str} {mb : MS} (vs : List V) (H : Hp) (Q : VK) (E : XK) (h : spF K (fmOf ps.length N.length mb) vs H Q E) : vs.length = ps.length := spF_len' (fun _ _ => fmOf_len _ _) vs H Q E h
/-- the same where the frame has a store of its own, in its last slot -/
def fmSt (np n : Nat) (mb : MS) : FM := fun ins => if ins.length = np then (mb ((ins ++ List.replicate (n - np) Slot.no).set (n - 1) (Slot.sto []))).bind fun p => (finR p).bind fun r => if ioKept ins p.2 = true then some (r, p.2.take np) else none else none
theorem fmSt_len {np n : Nat} {mb : MS} (ins : Sl) (r : Res × Sl) (h : fmSt np n mb ins = some r) : ins.length = np := by
  unfold fmSt at h
  by_cases hl : ins.length = np
  · exact hl
  · rw [if_neg hl] at h
    cases h
theorem Rel.stoNew {B : Fb} {env : Sl} {σ : L2.St} {Hk : Kn} {H : Hp} (R : Cm.Rel K B env σ Hk H) (hP : ∀ n, Hk.P n = none) (i : Nat) : Cm.Rel K B (env.set i (.sto [])) σ Hk H where
  ex := R.ex
  kn := R.kn
  fr := R.fr
  kp := R.kp
  oin := R.oin
  o0 := R.o0
  len := by rw [List.length_set]; exact R.len
  slot := fun j t hj => by
    rcases set_get hj with ⟨rfl, rfl⟩ | ⟨hne, hj'⟩
    · have hl : j < σ.length := by
        have := (List.getElem?_eq_some_iff.mp hj).1
        rw [List.length_set] at this
        rw [← R.len]
        exact this
      exact ⟨_, List.getElem?_eq_getElem hl, trivial⟩
    · exact R.slot j t hj'
  sep := fun j k s t b hj hk ms mt g1 g2 => by
    rcases set_get hj with ⟨rfl, rfl⟩ | ⟨_, hj⟩
    · cases ms
    · rcases set_get hk with ⟨rfl, rfl⟩ | ⟨_, hk⟩
      · cases mt
      · exact R.sep j k s t b hj hk ms mt g1 g2
  sok := fun M h => by
    by_cases hM : M = []
    · subst hM
      exact ⟨fun n c z => (by simp at z), fun n m a z => (by rw [hP] at z; cases z), fun n _ => hP n⟩
    · unfold HasSto at h
      rcases set_get h with ⟨_, z⟩ | ⟨_, z⟩
      · exact absurd (Slot.sto.inj z) hM
      · rw [List.length_set] at z
        exact R.sok M z
  pin := R.pin
  psep := fun j s a n hj ms g => by
    rw [hP]
    exact fun z => nomatch z
open Classical in
/-- all that the store holds is known -/
noncomputable def Kn.all (Hk : Kn) (H : Hp) : Hp := fun a => if ∃ n, Hk.P n = some a then H a else Hk a
theorem Kn.all_same {B : Fb} {env : Sl} {σ : L2.St} {Hk : Kn} {H : Hp} (R : Cm.Rel K B env σ Hk H) : Same Hk (Hk.all H) := fun a o e => by
  unfold Kn.all
  split
  · exact R.ex _ _ e
  · exact e
theorem Kn.all_ex {B : Fb} {env : Sl} {σ : L2.St} {Hk : Kn} {H : Hp} (R : Cm.Rel K B env σ Hk H) : Same (Hk.all H) H := fun a o e => by
  unfold Kn.all at e
  split at e
  · exact e
  · exact R.ex _ _ e
theorem Kn.all_at {Hk : Kn} {H : Hp} {n : Nat} {a : Addr} (h : Hk.P n = some a) : Hk.all H a = H a := if_pos ⟨n, h⟩
theorem Kn.all_out {Hk : Kn} {H : Hp} {a : Addr} (h : ∀ n, Hk.P n ≠ some a) : Hk.all H a = Hk a := if_neg fun ⟨n, e⟩ => h n e
/-- a def's body, as the rule of defs wants it -/
theorem fn_bodyG {qual : Str} {st : Stmt} {f : Addr} {N ps : List Str} {mb : MS} (S : FnScope N ps (defScope st)) {cdv : Value} {A : Around} {outer : List Env} {s : Shared} {H : Hp} {E : XK} {vs : List V} {Q : VK}
    (hb : VSs ((cxOf CX0 P w K mg base N qual (defScope st) f cdv A outer s H E).nox) (defBody st) mb) {Hk : Hp} {ins env0 : Sl} {r : Res} {outs : Sl} (sm : Same Hk H) (hA : ArgsOk K Hk H ins vs) (hl : ins.length = ps.length)
    (h0 : ∀ {B : Fb} {σ : L2.St} {Hk' : Kn}, (∀ n, Hk'.P n = none) → Cm.Rel K B (ins ++ List.replicate (N.length - ps.length) Slot.no) σ Hk' H → Cm.Rel K B env0 σ Hk' H)
    (hf : ((mb env0).bind fun p => (finR p).bind fun r => if ioKept ins p.2 = true then some (r, p.2.take ps.length) else none) = some (r, outs)) (q : ∀ v Hk' H', PostF K Hk H ins vs outs r v Hk' H' → Q v H') :
    ∃ t, PSs (cxOf CX0 P w K mg base N qual (defScope st) f cdv A outer s H E) (defBody st) t ∧ t { nx := fun _ H' => Q .non H', rt := Q } (L2.start N vs) H := by
  have hpl : ps.length ≤ N.length := by
    have := congrArg List.length S.pre
    rw [List.length_take] at this
    omega
  obtain ⟨⟨fl, env'⟩, h1, hf⟩ := Option.bind_eq_some_iff.mp hf
  obtain ⟨r', h2, hf⟩ := Option.bind_eq_some_iff.mp hf
  by_cases hk : ioKept ins env' = true
  · have hf : (if ioKept ins env' = true then some (r', env'.take ps.length) else none) = some (r, outs) := hf
    rw [if_pos hk] at hf
    cases hf
    refine ⟨tS K (fun _ _ _ _ => False) mb, PSs.nox (hb _ fun u s' h => by obtain ⟨_, _, _, _, _, _, _, _, _, _, _, _, _, _, _, _, w⟩ := h; exact w.elim), ?_⟩
    have R := hA.rel (N := N) sm (by rw [← hA.len, hl]; exact hpl)
    rw [hl] at R
    refine ⟨_, _, _, fl, env', h0 (fun _ => rfl) R, h1, fun σ' Hk' H' R' s' => ?_⟩
    have post : ∀ v, FRes K H Hk' H' r v → Q v H' := fun v hv => by
      refine q v Hk' H' ⟨s'.s, R'.ex, R'.fr, fun a o h1 h2 => R'.kp a o h1 (fun z => z.elim (fun ⟨k, z⟩ => h2 k z) id), fun k a h => ?_, hv⟩
      obtain ⟨l, c, e1, e2⟩ := ioA_of h
      have := hA.ix k l c e1
      subst this
      obtain ⟨c', g1⟩ := ioKept_get hk e1
      have hlt : l < ps.length := by rw [← hl]; exact (List.getElem?_eq_some_iff.mp e1).1
      refine ⟨c', by rw [List.getElem?_take_of_lt hlt]; exact g1, (R'.oin a (.inl ⟨l, h⟩)).2, ?_⟩
      obtain ⟨o, _, b, _, _, z1, z2⟩ := R'.slot l _ g1
      have z1 : ioA ins vs l = some b := z1
      rw [h] at z1
      cases z1
      exact z2
    cases fl with
    | nx =>
      cases h2
      exact post .non .non
    | bk => cases h2
    | ct => cases h2
    | ex C fs => cases h2
    | rt r0 =>
      intro v hv
      cases r0 with
      | dat d =>
        cases h2
        exact post v hv
      | pv p =>
        obtain ⟨d, h3, rfl⟩ := Option.map_eq_some_iff.mp h2
        have hd : Dv K (Hk'.all H') v d := R'.deepP (Kn.all_same R') (fun n c a _ _ h => Kn.all_at h) 9 hv h3
        have hio : ∀ (n : Nat) k a, Hk'.P n = some a → ioA ins vs k ≠ some a := fun n k a h1 h2 => by
          obtain ⟨l, c, e1, e2⟩ := ioA_of h2
          have := hA.ix k l c e1
          subst this
          obtain ⟨c', g1⟩ := ioKept_get hk e1
          obtain ⟨o, z0, b, rfl, _, z1, z2⟩ := R'.slot l _ g1
          have z1 : ioA ins vs l = some b := z1
          rw [h2] at z1
          cases z1
          exact R'.psep l _ a n g1 trivial z0 h1
        refine q v (Hk'.all H') H' ⟨s'.s.trans (Kn.all_same R'), Kn.all_ex R', fun a h1 h2 => ?_, fun a o h1 h2 => R'.kp a o h1 (fun z => z.elim (fun ⟨k, z⟩ => h2 k z) id), fun k a h => ?_, hd⟩
        · by_cases hp : ∃ n, Hk'.P n = some a
          · obtain ⟨n, hn⟩ := hp
            by_cases hka : Hk' a = none
            · rcases (R'.pin n a hn).2 hka with z | z
              · exact z
              · exact False.elim (z.elim (fun ⟨k, z⟩ => hio n k a hn z) id)
            · exact R'.fr a hka h2
          · rw [Kn.all_out fun n z => hp ⟨n, z⟩] at h1
            exact R'.fr a h1 h2
        · obtain ⟨l, c, e1, e2⟩ := ioA_of h
          have := hA.ix k l c e1
          subst this
          obtain ⟨c', g1⟩ := ioKept_get hk e1
          have hlt : l < ps.length := by rw [← hl]; exact (List.getElem?_eq_some_iff.mp e1).1
          refine ⟨c', by rw [List.getElem?_take_of_lt hlt]; exact g1, ?_, ?_⟩
          · rw [Kn.all_out fun n z => hio n l a z h]
            exact (R'.oin a (.inl ⟨l, h⟩)).2
          · obtain ⟨o, _, b, _, _, z1, z2⟩ := R'.slot l _ g1
            have z1 : ioA ins vs l = some b := z1
            rw [h] at z1
            cases z1
            exact z2.mono (Kn.all_same R') fun o z => z
      | new c =>
        cases h2
        obtain ⟨a, rfl, q1, q2, q3, _⟩ := hv
        exact post _ ⟨a, rfl, q1, q2, q3⟩
      | slt i =>
        have hv : σ'[i]? = some (some v) := hv
        cases e : env'[i]? with
        | none =>
          simp only [finR, e] at h2
          cases h2
        | some s =>
          obtain ⟨o, g1, g2⟩ := R'.slot i s e
          rw [hv] at g1
          cases g1
          simp only [finR, e] at h2
          cases s with
          | val d =>
            cases h2
            obtain ⟨v', e1, z⟩ := g2
            cases e1
            exact post _ z
          | own c =>
            cases h2
            obtain ⟨a, e1, z1, z2, z3⟩ := g2
            cases e1
            exact post _ ⟨a, rfl, z1, z2, z3⟩
          | _ => cases h2
  · have hf : (if ioKept ins env' = true then some (r', env'.take ps.length) else none) = some (r, outs) := hf
    rw [if_neg hk] at hf
    cases hf
theorem fn_body {qual : Str} {st : Stmt} {f : Addr} {N ps : List Str} {mb : MS} (S : FnScope N ps (defScope st)) {cdv : Value} {A : Around} {outer : List Env} {s : Shared} {H : Hp} {E : XK} {vs : List V} {Q : VK}
    (hb : VSs ((cxOf CX0 P w K mg base N qual (defScope st) f cdv A outer s H E).nox) (defBody st) mb) (h : spF K (fmOf ps.length N.length mb) vs H Q E) :
    ∃ t, PSs (cxOf CX0 P w K mg base N qual (defScope st) f cdv A outer s H E) (defBody st) t ∧ t { nx := fun _ H' => Q .non H', rt := Q } (L2.start N vs) H := by
  obtain ⟨Hk, ins, r, outs, sm, hA, hf, q⟩ := h
  have hl := fmOf_len _ _ hf
  unfold fmOf at hf
  rw [if_pos hl] at hf
  exact fn_bodyG S hb sm hA hl (fun _ R => R) hf q
theorem fn_bodyS {qual : Str} {st : Stmt} {f : Addr} {N ps : List Str} {mb : MS} (S : FnScope N ps (defScope st)) {cdv : Value} {A : Around} {outer : List Env} {s : Shared} {H : Hp} {E : XK} {vs : List V} {Q : VK}
    (hb : VSs ((cxOf CX0 P w K mg base N qual (defScope st) f cdv A outer s H E).nox) (defBody st) mb) (h : spF K (fmSt ps.length N.length mb) vs H Q E) :
    ∃ t, PSs (cxOf CX0 P w K mg base N qual (defScope st) f cdv A outer s H E) (defBody st) t ∧ t { nx := fun _ H' => Q .non H', rt := Q } (L2.start N vs) H := by
  obtain ⟨Hk, ins, r, outs, sm, hA, hf, q⟩ := h
  have hl := fmSt_len _ _ hf
  unfold fmSt at hf
  rw [if_pos hl] at hf
  exact fn_bodyG S hb sm hA hl (fun hP R => R.stoNew hP _) hf q
/-- THE RULE: a def by its body's function -/
theorem fn_ok {x qual : Str} {st : Stmt} {f : Addr} {fd : FuncData} {N ps : List Str} {k : Nat} {mb : MS} (F : FunD K x qual (defArgs st) (defBody st) (defScope st) [] [] f fd) (S : FnScope N ps (defScope st))
    (hb : ∀ (cdv : Value) (A : Around) (outer : List Env) (s : Shared) (H : Hp) (E : XK), Room k (A.deeper (envOfC qual (defScope st) s.heap.objs.size f cdv)) → VSs ((cxOf CX0 P w K mg base N qual (defScope st) f cdv A outer s H E).nox) (defBody st) mb) :
    FnOk P w K mg base CX0 (k + 1) f fd ps (spF K (fmOf ps.length N.length mb)) :=
  F.ok (CX := CX0) S spF_len fun cdv A outer s H vs Q E hr h => fn_body S (hb cdv A outer s H E hr) h
theorem fn_okS {x qual : Str} {st : Stmt} {f : Addr} {fd : FuncData} {N ps : List Str} {k : Nat} {mb : MS} (F : FunD K x qual (defArgs st) (defBody st) (defScope st) [] [] f fd) (S : FnScope N ps (defScope st))
    (hb : ∀ (cdv : Value) (A : Around) (outer : List Env) (s : Shared) (H : Hp) (E : XK), Room k (A.deeper (envOfC qual (defScope st) s.heap.objs.size f cdv)) → VSs ((cxOf CX0 P w K mg base N qual (defScope st) f cdv A outer s H E).nox) (defBody st) mb) :
    FnOk P w K mg base CX0 (k + 1) f fd ps (spF K (fmSt ps.length N.length mb)) :=
  F.ok (CX := CX0) S (spF_len' (fun _ _ => fmSt_len _ _)) fun cdv A outer s H vs Q E hr h => fn_bodyS S (hb cdv A outer s H E hr) h
end
end Cm
namespace Cm
open PySem L2
/-! ### a def called -/
/-- brw: a list of one's own may be lent -/
def argV (brw : Bool) (io : Option Nat) (env : Sl) (k : Nat) (r : Res) : Option Slot := if io = some k then (match r with
    | .slt i => match env[i]? with
      | some (.own c) => some (.io k c)
      | some (.io _ c) => some (.io k c)
      | _ => none
    | _ => none) else match r with
    | .dat d => some (.val d)
    | .slt i => match env[i]? with
      | some (.val d) => some (.val d)
      | some (.scr ns) => some (.scr ns)
      | some (.own c) => if brw then some (.val c.dat) else none
      | some (.io _ c) => if brw then some (.val c.dat) else none
      | _ => none
    | .pv p => if brw then (p.deep (sto env) 9).map .val else (p.kn (sto env)).map .val
    | _ => none
def argsV (brw : Bool) (io : Option Nat) (env : Sl) : Nat → List Res → Option Sl
  | _, [] => some []
  | k, r :: rs => (argV brw io env k r).bind fun s => (argsV brw io env (k + 1) rs).map (s :: ·)
def backV (io : Option Nat) (env : Sl) (rs : List Res) (outs : Sl) : Option Sl := match io with
  | none => some env
  | some q => match rs[q]?, outs[q]? with
    | some (.slt i), some (.io _ c) => match env[i]? with
      | some s => some (env.set i (s.put c))
      | none => none
    | _, _ => none
def mCallV (fm : FM) (io : Option Nat) (ms : MA) : ME := fun env => (ms env).bind fun p => (argsV false io p.2 0 p.1).bind fun ins => (fm ins).bind fun q => (backV io p.2 p.1 q.2).map fun e => (q.1, e)
def flatD : PyData → Bool
  | .none => true
  | .bool _ => true
  | .int _ => true
  | .str _ => true
  | _ => false
def flatR : Res → Bool
  | .dat d => flatD d
  | .new (.lst ds) => ds.all flatD
  | .new (.dct es) => es.all fun p => flatD p.2
  | _ => false
def flatS : Slot → Bool
  | .io _ (.lst ds) => ds.all flatD
  | .io _ (.dct es) => es.all fun p => flatD p.2
  | _ => true
/-- no list is lent and changed at once -/
def lentOk (io : Option Nat) (rs : List Res) : Bool := match io with
  | none => true
  | some q => match rs[q]? with
    | some (.slt i) => (List.range rs.length).all fun j => j == q || (match rs[j]? with
      | some (.slt l) => l != i
      | _ => true)
    | _ => false
def mCallF (fm : FM) (io : Option Nat) (ms : MA) : ME := fun env => (ms env).bind fun p => if lentOk io p.1 = true then (argsV true io p.2 0 p.1).bind fun ins => (fm ins).bind fun q => if (flatR q.1 && q.2.all flatS) = true then (backV io p.2 p.1 q.2).map fun e => (q.1, e) else none else none
section
variable {X : Cx} {K : PySem.W.Frag} {B : Fb} {env : Sl} {σ : St} {Hk Hk' : Kn} {H H' : Hp}
theorem argsV_get {brw : Bool} {io : Option Nat} : ∀ {rs : List Res} {k : Nat} {ins : Sl}, argsV brw io env k rs = some ins → ins.length = rs.length ∧ ∀ (i : Nat) r, rs[i]? = some r → ∃ s, ins[i]? = some s ∧ argV brw io env (k + i) r = some s
  | [], k, ins, h => by
    cases h
    exact ⟨rfl, fun i r e => by simp at e⟩
  | r :: rs, k, ins, h => by
    obtain ⟨s, h1, h⟩ := Option.bind_eq_some_iff.mp h
    obtain ⟨ss, h2, h3⟩ := Option.map_eq_some_iff.mp h
    subst h3
    obtain ⟨l, g⟩ := argsV_get h2
    refine ⟨by simp [l], fun i r' e => ?_⟩
    cases i with
    | zero =>
      simp at e
      subst e
      exact ⟨s, rfl, h1⟩
    | succ i =>
      obtain ⟨s', q1, q2⟩ := g i r' (by simpa using e)
      refine ⟨s', by simpa using q1, ?_⟩
      rw [show k + (i + 1) = k + 1 + i by omega]
      exact q2
theorem RsAll.len : ∀ {rs : List Res} {vs : List V}, RsAll K σ Hk rs vs → rs.length = vs.length
  | _, _, .nil => rfl
  | _, _, .cons _ h => by
    have := RsAll.len h
    simp [this]
theorem RsAll.get : ∀ {rs : List Res} {vs : List V}, RsAll K σ Hk rs vs → ∀ (i : Nat) v, vs[i]? = some v → ∃ r, rs[i]? = some r ∧ RsOk K σ Hk r v
  | _, _, .nil, i, v, h => by simp at h
  | _, _, .cons h1 _, 0, v, h => by
    simp at h
    subst h
    exact ⟨_, rfl, h1⟩
  | _, _, .cons _ h2, i + 1, v, h => by
    obtain ⟨r, e, q⟩ := RsAll.get h2 i v (by simpa using h)
    exact ⟨r, by simpa using e, q⟩
/-- a slot that is mutable, with its address -/
theorem Rel.mutAt (R : Rel K B env σ Hk H) {i : Nat} {s : Slot} (hs : env[i]? = some s) (hm : s.mut) : ∃ a, σ[i]? = some (some (V.ref a)) ∧ Hk a = none ∧ (∃ o, H a = some o) ∧ (B.H0 a = none ∨ B.io a) := by
  obtain ⟨o, h1, h2⟩ := R.slot i s hs
  cases s with
  | no => cases hm
  | val d => cases hm
  | scr d => cases hm
  | pin a => cases hm
  | pv p => cases hm
  | sto M => cases hm
  | own c =>
    obtain ⟨a, rfl, q1, q2, q3⟩ := h2
    exact ⟨a, h1, q1, q3.there, .inl q2⟩
  | io k c =>
    obtain ⟨a, rfl, q1, q2, q3⟩ := h2
    exact ⟨a, h1, q1, q3.there, .inr (.inl ⟨k, q2⟩)⟩
/-- behind a call that changed one cell -/
theorem Rel.called (R : Rel K B env σ Hk H) (kn : Same Hk Hk') (hP : Hk'.P = Hk.P) (ex : Same Hk' H') (fr : ∀ a, Hk' a ≠ none → Hk a = none → H a = none) {i : Nat} {s : Slot} {a : Addr} {c' : Cell} (hs : env[i]? = some s) (hm : s.mut) (ha : σ[i]? = some (some (V.ref a)))
    (kp : ∀ b o, H b = some o → b ≠ a → H' b = some o) (hc : CellAt K Hk' H' a c') : Rel K B (env.set i (s.put c')) σ Hk' H' := by
  obtain ⟨a', e1, q1, ⟨o, ho⟩, q2⟩ := R.mutAt hs hm
  rw [ha] at e1
  cases e1
  obtain ⟨o', ho'⟩ := hc.there
  have hk' : Hk' a = none := by
    cases q : Hk' a with
    | none => rfl
    | some u => exact absurd (fr a (ne_none q) q1) (ne_none ho)
  have eqH : H' = upd (upd H' a o) a o' := by
    funext b
    by_cases e : b = a
    · rw [e, upd_same, ho']
    · rw [upd_ne e, upd_ne e]
  have sH : Same H (upd H' a o) := fun b x e => by
    by_cases z : b = a
    · rw [z] at e ⊢
      rw [ho] at e
      rw [upd_same]
      exact e
    · rw [upd_ne z]
      exact kp b x e z
  have R2 : Rel K B env σ Hk' (upd H' a o) := R.grow kn (fun b x e => by
    have z : b ≠ a := fun z => by rw [z, hk'] at e; cases e
    rw [upd_ne z]
    exact ex b x e) sH fr hP
  have hc2 : CellAt K Hk' (upd (upd H' a o) a o') a c' := by
    rw [← eqH]
    exact hc
  have R3 := R2.change hs hm ha hc2
  rw [← eqH] at R3
  exact R3
theorem same_of_keep {ins : Sl} {vs : List V} {H H' : Hp} (kp : ∀ a o, H a = some o → (∀ k, ioA ins vs k ≠ some a) → H' a = some o) (hn : ∀ k, ioA ins vs k = none) : Same H H' := fun a o e => kp a o e fun k z => by rw [hn k] at z; cases z
/-- the arguments as slots -/
theorem args_io {brw : Bool} {io : Option Nat} {rs : List Res} {ins : Sl} (h : argsV brw io env 0 rs = some ins) {i k : Nat} {c : Cell} (e : ins[i]? = some (.io k c)) : k = i ∧ io = some i ∧ ∃ j s, rs[i]? = some (.slt j) ∧ env[j]? = some s ∧ s.mut ∧ (s = .own c ∨ ∃ l, s = .io l c) := by
  obtain ⟨l, g⟩ := argsV_get h
  have hi : i < rs.length := by rw [← l]; exact (List.getElem?_eq_some_iff.mp e).1
  obtain ⟨s, q1, q2⟩ := g i _ (List.getElem?_eq_getElem hi)
  rw [e] at q1
  cases q1
  rw [Nat.zero_add] at q2
  unfold argV at q2
  by_cases hio : io = some i
  · rw [if_pos hio] at q2
    cases er : rs[i] with
    | dat d => rw [er] at q2; cases q2
    | new d => rw [er] at q2; cases q2
    | pv p => rw [er] at q2; cases brw <;> simp at q2
    | slt j =>
      rw [er] at q2
      cases ej : env[j]? with
      | none => simp only [ej] at q2; cases q2
      | some s =>
        simp only [ej] at q2
        cases s with
        | no => cases q2
        | val d => cases q2
        | scr d => cases q2
        | pin a => cases q2
        | pv p => cases q2
        | sto M => cases q2
        | own c2 =>
          cases q2
          exact ⟨rfl, hio, j, _, by rw [List.getElem?_eq_getElem hi, er], ej, trivial, .inl rfl⟩
        | io l c2 =>
          cases q2
          exact ⟨rfl, hio, j, _, by rw [List.getElem?_eq_getElem hi, er], ej, trivial, .inr ⟨l, rfl⟩⟩
  · rw [if_neg hio] at q2
    cases er : rs[i] with
    | dat d => rw [er] at q2; cases q2
    | new d => rw [er] at q2; cases q2
    | pv p => rw [er] at q2; cases brw <;> simp at q2
    | slt j =>
      rw [er] at q2
      cases ej : env[j]? with
      | none => simp only [ej] at q2; cases q2
      | some s =>
        simp only [ej] at q2
        cases s with
        | no => cases q2
        | val d => cases q2
        | scr d => cases q2
        | pin a => cases q2
        | pv p => cases q2
        | sto M => cases q2
        | own c2 => cases brw <;> cases q2
        | io l c2 => cases brw <;> cases q2
theorem CellAt.slot (R : Rel K B env σ Hk H) {j : Nat} {s : Slot} {c : Cell} {a : Addr} (hs : env[j]? = some s) (hc : s = .own c ∨ ∃ l, s = .io l c) (ha : σ[j]? = some (some (V.ref a))) : CellAt K Hk H a c := by
  obtain ⟨o, h1, h2⟩ := R.slot j s hs
  rw [ha] at h1
  cases h1
  rcases hc with rfl | ⟨l, rfl⟩
  · obtain ⟨b, e1, _, _, q⟩ := h2
    cases e1
    exact q
  · obtain ⟨b, e1, _, _, q⟩ := h2
    cases e1
    exact q
/-- at most one argument is changed: its slot and address -/
theorem io_at (R : Rel K B env σ Hk H) {brw : Bool} {io : Option Nat} {rs : List Res} {ins : Sl} {vs : List V} (h : argsV brw io env 0 rs = some ins) (hr : RsAll K σ Hk rs vs) {k : Nat} {a : Addr} (e : ioA ins vs k = some a) :
    io = some k ∧ ∃ j s c, ins[k]? = some (.io k c) ∧ rs[k]? = some (.slt j) ∧ env[j]? = some s ∧ s.mut ∧ (s = .own c ∨ ∃ l, s = .io l c) ∧ σ[j]? = some (some (V.ref a)) ∧ vs[k]? = some (.ref a) := by
  obtain ⟨l, c, e1, e2⟩ := ioA_of e
  obtain ⟨rfl, hio, j, s, g1, g2, g3, g4⟩ := args_io h e1
  obtain ⟨r, q1, q2⟩ := hr.get l _ e2
  rw [g1] at q1
  cases q1
  exact ⟨hio, j, s, c, e1, g1, g2, g3, g4, q2, e2⟩
theorem back_is {io : Option Nat} {rs : List Res} {outs e2 : Sl} (h : backV io env rs outs = some e2) : (io = none ∧ e2 = env) ∨ ∃ q i k c s, io = some q ∧ rs[q]? = some (.slt i) ∧ outs[q]? = some (.io k c) ∧ env[i]? = some s ∧ e2 = env.set i (s.put c) := by
  cases io with
  | none =>
    cases h
    exact .inl ⟨rfl, rfl⟩
  | some q =>
    cases h1 : rs[q]? with
    | none => simp only [backV, h1] at h; cases h
    | some r =>
      cases r with
      | dat d => simp only [backV, h1] at h; cases h
      | new d => simp only [backV, h1] at h; cases h
      | pv p => simp only [backV, h1] at h; cases h
      | slt i =>
        cases h2 : outs[q]? with
        | none => simp only [backV, h1, h2] at h; cases h
        | some s =>
          cases s with
          | no => simp only [backV, h1, h2] at h; cases h
          | val d => simp only [backV, h1, h2] at h; cases h
          | own d => simp only [backV, h1, h2] at h; cases h
          | scr d => simp only [backV, h1, h2] at h; cases h
          | pin a => simp only [backV, h1, h2] at h; cases h
          | pv p => simp only [backV, h1, h2] at h; cases h
          | sto M => simp only [backV, h1, h2] at h; cases h
          | io k c =>
            cases h3 : env[i]? with
            | none => simp only [backV, h1, h2, h3] at h; cases h
            | some s =>
              simp only [backV, h1, h2, h3] at h
              cases h
              exact .inr ⟨q, i, k, c, s, rfl, h1, h2, h3, rfl⟩
theorem args_len {brw : Bool} {io : Option Nat} {rs : List Res} {ins : Sl} {vs : List V} (h : argsV brw io env 0 rs = some ins) (hr : RsAll K σ Hk rs vs) : ins.length = vs.length := by
  rw [(argsV_get h).1, hr.len]
theorem io_pos {brw : Bool} {q : Nat} {rs : List Res} {ins : Sl} {i : Nat} (h : argsV brw (some q) env 0 rs = some ins) (hq : rs[q]? = some (.slt i)) : ∃ c s, ins[q]? = some (.io q c) ∧ env[i]? = some s ∧ s.mut := by
  obtain ⟨s, q1, q2⟩ := (argsV_get h).2 q _ hq
  rw [Nat.zero_add] at q2
  unfold argV at q2
  rw [if_pos rfl] at q2
  cases ej : env[i]? with
  | none => simp only [ej] at q2; cases q2
  | some s2 =>
    simp only [ej] at q2
    cases s2 with
    | no => cases q2
    | val d => cases q2
    | scr d => cases q2
    | pin a => cases q2
    | pv p => cases q2
    | sto M => cases q2
    | own c2 =>
      cases q2
      exact ⟨_, _, q1, rfl, trivial⟩
    | io l c2 =>
      cases q2
      exact ⟨_, _, q1, rfl, trivial⟩
/-- what stands behind a call, for any knowledge Hk2 between -/
theorem Rel.after (R : Rel K B env σ Hk H) {brw : Bool} {io : Option Nat} {rs : List Res} {ins outs e2 : Sl} {vs : List V} {Hk2 : Hp} (h : argsV brw io env 0 rs = some ins) (hr : RsAll K σ Hk rs vs) (hb : backV io env rs outs = some e2)
    (kn : Same Hk Hk2) (ex : Same Hk2 H') (fr : ∀ a, Hk2 a ≠ none → Hk a = none → H a = none) (kp : ∀ a o, H a = some o → (∀ k, ioA ins vs k ≠ some a) → H' a = some o)
    (hio : ∀ k a c', ioA ins vs k = some a → outs[k]? = some (.io k c') → CellAt K Hk2 H' a c') (hk : ∀ k a, ioA ins vs k = some a → ∃ c', outs[k]? = some (.io k c')) : Rel K B e2 σ ⟨Hk2, Hk.P⟩ H' := by
  rcases back_is hb with ⟨rfl, rfl⟩ | ⟨q, i, k, c, s, rfl, h1, h2, h3, rfl⟩
  · refine R.grow (Hk' := ⟨Hk2, Hk.P⟩) kn ex (same_of_keep kp fun k => ?_) fr
    cases e : ioA ins vs k with
    | none => rfl
    | some a => cases (io_at R h hr e).1
  · obtain ⟨c0, s0, g1, g2, g3⟩ := io_pos h h1
    rw [h3] at g2
    cases g2
    obtain ⟨a, e1, _, _, _⟩ := R.mutAt h3 g3
    have hql : q < vs.length := by
      rw [← hr.len]
      exact (List.getElem?_eq_some_iff.mp h1).1
    obtain ⟨r, z1, z2⟩ := hr.get q _ (List.getElem?_eq_getElem hql)
    rw [h1] at z1
    cases z1
    have z2 : σ[i]? = some (some vs[q]) := z2
    rw [e1] at z2
    have hv : vs[q]? = some (.ref a) := by
      rw [List.getElem?_eq_getElem hql]
      exact congrArg some (Option.some.inj (Option.some.inj z2)).symm
    have hA : ioA ins vs q = some a := ioA_is g1 hv
    obtain ⟨c', h4⟩ := hk q a hA
    rw [h2] at h4
    cases h4
    refine R.called (Hk' := ⟨Hk2, Hk.P⟩) kn rfl ex fr h3 g3 e1 (fun b o hb hne => kp b o hb fun k z => ?_) (hio q a c hA h2)
    have := (io_at R h hr z).1
    cases this
    rw [hA] at z
    exact hne (Option.some.inj z).symm
theorem argVal {brw : Bool} {io : Option Nat} {i : Nat} {r : Res} {s : Slot} (hio : io ≠ some i) (h : argV brw io env i r = some s) :
    (∃ d, r = .dat d ∧ s = .val d) ∨ (∃ p d, r = .pv p ∧ s = .val d ∧ ((brw = true ∧ p.deep (sto env) 9 = some d) ∨ (brw = false ∧ p.kn (sto env) = some d))) ∨ ∃ j, r = .slt j ∧ ((∃ d, env[j]? = some (.val d) ∧ s = .val d) ∨ (∃ ns, env[j]? = some (.scr ns) ∧ s = .scr ns) ∨ (brw = true ∧ ∃ ds t, env[j]? = some t ∧ t.mut ∧ (t = .own ds ∨ ∃ l, t = .io l ds) ∧ s = .val (Cell.dat ds))) := by
  unfold argV at h
  rw [if_neg hio] at h
  cases r with
  | dat d =>
    cases h
    exact .inl ⟨d, rfl, rfl⟩
  | new d => cases h
  | pv p =>
    refine .inr (.inl ⟨p, ?_⟩)
    cases brw with
    | true =>
      obtain ⟨d, h1, rfl⟩ := Option.map_eq_some_iff.mp h
      exact ⟨d, rfl, rfl, .inl ⟨rfl, h1⟩⟩
    | false =>
      obtain ⟨d, h1, rfl⟩ := Option.map_eq_some_iff.mp h
      exact ⟨d, rfl, rfl, .inr ⟨rfl, h1⟩⟩
  | slt j =>
    refine .inr (.inr ⟨j, rfl, ?_⟩)
    cases ej : env[j]? with
    | none => simp only [ej] at h; cases h
    | some t =>
      simp only [ej] at h
      cases t with
      | no => cases h
      | val d =>
        cases h
        exact .inl ⟨d, rfl, rfl⟩
      | scr ns =>
        cases h
        exact .inr (.inl ⟨ns, rfl, rfl⟩)
      | pin a => cases h
      | pv p => cases h
      | sto M => cases h
      | own c =>
        cases brw with
        | true =>
          cases h
          exact .inr (.inr ⟨rfl, c, _, rfl, trivial, .inl rfl, rfl⟩)
        | false => cases h
      | io l c =>
        cases brw with
        | true =>
          cases h
          exact .inr (.inr ⟨rfl, c, _, rfl, trivial, .inr ⟨l, rfl⟩, rfl⟩)
        | false => cases h
/-- the arguments, seen with what is lent known -/
theorem args_ok (R : Rel K B env σ Hk H) {brw : Bool} {io : Option Nat} {rs : List Res} {ins : Sl} {vs : List V} {Hl : Hp} (sm : Same Hk Hl) (hn : ∀ i j s a, io = some i → rs[i]? = some (.slt j) → env[j]? = some s → s.mut → σ[j]? = some (some (V.ref a)) → Hl a = none)
    (hl : ∀ i j s a, brw = true → io ≠ some i → rs[i]? = some (.slt j) → env[j]? = some s → s.mut → σ[j]? = some (some (V.ref a)) → Hl a = H a) (hp : brw = true → ∀ n a, Hk.P n = some a → Hl a = H a) (h : argsV brw io env 0 rs = some ins) (hr : RsAll K σ Hk rs vs) : ArgsOk K Hl H ins vs where
  len := args_len h hr
  arg := fun i s v e1 e2 => by
    obtain ⟨r, q1, q2⟩ := hr.get i v e2
    obtain ⟨s', z1, z2⟩ := (argsV_get h).2 i r q1
    rw [e1] at z1
    cases z1
    rw [Nat.zero_add] at z2
    by_cases hio : io = some i
    · cases s with
      | io k c =>
        obtain ⟨_, _, j, s2, g1, g2, g3, g4⟩ := args_io h e1
        rw [q1] at g1
        cases g1
        obtain ⟨a, w1, w2, w3, _⟩ := R.mutAt g2 g3
        have q2 : σ[j]? = some (some v) := q2
        have : v = .ref a := by rw [w1] at q2; exact (Option.some.inj (Option.some.inj q2)).symm
        subst this
        exact ⟨a, rfl, hn i j s2 a hio q1 g2 g3 w1, (CellAt.slot R g2 g4 w1).mono sm fun o z => z⟩
      | _ =>
        unfold argV at z2
        rw [if_pos hio] at z2
        cases r with
        | dat d => cases z2
        | new d => cases z2
        | pv p => cases brw <;> simp at z2
        | slt j =>
          cases ej : env[j]? with
          | none => simp only [ej] at z2; cases z2
          | some s => simp only [ej] at z2; cases s <;> simp at z2
    · rcases argVal hio z2 with ⟨d, rfl, rfl⟩ | ⟨p, d, rfl, rfl, ⟨hb, hd⟩ | ⟨hb, hd⟩⟩ | ⟨j, rfl, ⟨d, ej, rfl⟩ | ⟨ns, ej, rfl⟩ | ⟨hb, ds, t, ej, tm, tc, rfl⟩⟩
      · exact dv_mono sm _ _ q2
      · exact R.deepP sm (fun n c a _ _ h => hp hb n a h) 9 q2 hd
      · exact dv_mono sm _ _ (R.knP q2 hd)
      · have q2 : σ[j]? = some (some v) := q2
        obtain ⟨o, w1, w2⟩ := R.slot j _ ej
        rw [q2] at w1
        cases w1
        obtain ⟨v', x1, x2⟩ := w2
        cases x1
        exact dv_mono sm _ _ x2
      · have q2 : σ[j]? = some (some v) := q2
        obtain ⟨o, w1, w2⟩ := R.slot j _ ej
        rw [q2] at w1
        cases w1
        obtain ⟨a, x1, x2⟩ := w2
        cases x1
        exact ⟨a, rfl, sm.seq x2⟩
      · have q2 : σ[j]? = some (some v) := q2
        obtain ⟨a, w1, w2, w3, _⟩ := R.mutAt ej tm
        have : v = .ref a := by rw [w1] at q2; exact (Option.some.inj (Option.some.inj q2)).symm
        subst this
        obtain ⟨ob, y1, y2⟩ := (CellAt.slot R ej tc w1).obj
        refine y2 Hl sm ?_
        rw [hl i j t a hb hio q1 ej tm w1]
        exact y1
  ix := fun i k c e => (args_io h e).1
  sep := fun i j k l c c' a e1 e2 _ _ => by
    have h1 := (args_io h e1).2.1
    have h2 := (args_io h e2).2.1
    rw [h1] at h2
    exact Option.some.inj h2
theorem res_after (R : Rel K B env σ Hk H) {io : Option Nat} {rs : List Res} {outs e2 : Sl} (hb : backV io env rs outs = some e2) {a : Addr} (ha : H a = none) : ∀ (j : Nat) s, e2[j]? = some s → s.mut → σ[j]? ≠ some (some (V.ref a)) := fun j s hj hm z => by
  rcases back_is hb with ⟨_, rfl⟩ | ⟨q, i, k', c', s', _, _, _, g3, rfl⟩
  · exact R.mutNe ha hj hm z
  · rcases set_get hj with ⟨rfl, rfl⟩ | ⟨_, hj⟩
    · exact R.mutNe ha g3 (by cases s' <;> exact hm) z
    · exact R.mutNe ha hj hm z
theorem callV_run {fm : FM} {io : Option Nat} {ms : MA} {Q : VK} (h : tE K (mCallV fm io ms) σ H Q) : tCall (spF K fm) [] E0 (tA K ms) σ H Q := by
  obtain ⟨B, env, Hk, res, env', R, hm, k⟩ := h
  obtain ⟨⟨rs, e1⟩, h1, hm⟩ := Option.bind_eq_some_iff.mp hm
  obtain ⟨ins, h2, hm⟩ := Option.bind_eq_some_iff.mp hm
  obtain ⟨⟨r, outs⟩, h3, hm⟩ := Option.bind_eq_some_iff.mp hm
  obtain ⟨e2, h4, hm⟩ := Option.map_eq_some_iff.mp hm
  cases hm
  refine ⟨B, env, Hk, rs, e1, R, h1, fun vs Hk1 H1 R1 s1 o1 => ?_⟩
  show spF K fm (vs ++ []) H1 Q E0
  rw [List.append_nil]
  have A : ArgsOk K Hk1 H1 ins vs := args_ok R1 (.refl _) (fun i j s a _ _ g1 g2 g3 => by
    obtain ⟨b, w1, w2, _⟩ := R1.mutAt g1 g2
    rw [g3] at w1
    cases w1
    exact w2) (fun i j s a z => by cases z) (fun z => by cases z) h2 o1
  refine ⟨Hk1, ins, r, outs, R1.ex, A, h3, fun v Hk2 H2 p => ?_⟩
  have R2 : Rel K B env' σ ⟨Hk2, Hk1.P⟩ H2 := R1.after h2 o1 h4 p.kn p.ex p.fr p.kp (fun k a c' e1 e2 => by
    obtain ⟨c2, g1, _, g2⟩ := p.io k a e1
    rw [e2] at g1
    cases g1
    exact g2) fun k a e => let ⟨c2, g1, _⟩ := p.io k a e; ⟨c2, g1⟩
  refine k v _ H2 R2 (s1.trans ⟨p.kn, fun _ _ z => z⟩) ?_
  have hres := p.res
  cases r with
  | dat d => exact hres
  | slt i => cases hres
  | pv p => cases hres
  | new c =>
    obtain ⟨a, rfl, q1, q2, q3⟩ := hres
    exact ⟨a, rfl, q1, R1.fresh0 q2, q3, R1.pfree q2, res_after R1 h4 q2⟩
/-! lent lists -/
theorem flat_dv {Hk : Hp} {d : PyData} {v : V} (h : flatD d = true) (q : Dv K Hk v d) (Hk2 : Hp) : Dv K Hk2 v d := by
  cases q with
  | non => exact .non
  | bl b => exact .bl b
  | int i => exact .int i
  | str x => exact .str x
  | lst _ _ => cases h
  | tup _ _ => cases h
  | dct _ _ => cases h
theorem flat_kvs {Hk : Hp} (Hk2 : Hp) : ∀ {ds : List (PyData × PyData)} {vs : List (Key × V)}, (ds.all fun p => flatD p.2) = true → DvKv K Hk vs ds → DvKv K Hk2 vs ds
  | _, _, _, .nil => .nil
  | _, _, h, .cons h1 h2 => by
    simp only [List.all_cons, Bool.and_eq_true] at h
    exact .cons (flat_dv h.1 h1 Hk2) (flat_kvs Hk2 h.2 h2)
theorem flat_dvs {Hk : Hp} (Hk2 : Hp) : ∀ {ds : List PyData} {vs : List V}, ds.all flatD = true → DvAll K Hk vs ds → DvAll K Hk2 vs ds
  | [], _, _, .nil => .nil
  | d :: ds, _, h, .cons h1 h2 => by
    simp only [List.all_cons, Bool.and_eq_true] at h
    exact .cons (flat_dv h.1 h1 Hk2) (flat_dvs Hk2 h.2 h2)
open Classical in
/-- known, and what is lent -/
noncomputable def lent (rs : List Res) (io : Option Nat) (env : Sl) (σ : St) (Hk : Kn) (H : Hp) : Hp := fun a => if (∃ (p : Nat) (j : Nat) (s : Slot), rs[p]? = some (.slt j) ∧ io ≠ some p ∧ env[j]? = some s ∧ s.mut ∧ σ[j]? = some (some (V.ref a))) ∨ ∃ n, Hk.P n = some a then H a else Hk a
theorem lent_same (R : Rel K B env σ Hk H) {rs : List Res} {io : Option Nat} : Same Hk (lent rs io env σ Hk H) := fun a o e => by
  unfold lent
  split
  · exact R.ex _ _ e
  · exact e
theorem lent_ex (s : Same Hk H) {rs : List Res} {io : Option Nat} : Same (lent rs io env σ Hk H) H := fun a o e => by
  unfold lent at e
  split at e
  · exact e
  · exact s a o e
theorem lent_no (R : Rel K B env σ Hk H) {rs : List Res} {io : Option Nat} (hL : lentOk io rs = true) (i j : Nat) (s : Slot) (a : Addr) (hio : io = some i) (h1 : rs[i]? = some (.slt j)) (h2 : env[j]? = some s) (h3 : s.mut) (h4 : σ[j]? = some (some (V.ref a))) : lent rs io env σ Hk H a = none := by
  obtain ⟨b, w1, w2, _⟩ := R.mutAt h2 h3
  rw [h4] at w1
  cases w1
  unfold lent
  rw [if_neg]
  · exact w2
  · rintro (⟨p, j', s', x1, x2, x3, x4, x5⟩ | ⟨n, x⟩)
    rotate_left
    · exact R.psep j s a n h2 h3 h4 x
    have hp : p < rs.length := (List.getElem?_eq_some_iff.mp x1).1
    subst hio
    simp only [lentOk, h1, List.all_eq_true, List.mem_range, Bool.or_eq_true, beq_iff_eq] at hL
    rcases hL p hp with y | y
    · exact x2 (by rw [y])
    · rw [x1] at y
      simp only [bne_iff_ne, ne_eq] at y
      exact y (R.sep j' j s' s a x3 h2 x4 h3 x5 h4)
theorem callF_run {fm : FM} {io : Option Nat} {ms : MA} {Q : VK} (h : tE K (mCallF fm io ms) σ H Q) : tCall (spF K fm) [] E0 (tA K ms) σ H Q := by
  obtain ⟨B, env, Hk, res, env', R, hm, k⟩ := h
  obtain ⟨⟨rs, e1⟩, h1, hm⟩ := Option.bind_eq_some_iff.mp hm
  by_cases hL : lentOk io rs = true
  · have hm : (if lentOk io rs = true then _ else _) = some (res, env') := hm
    rw [if_pos hL] at hm
    obtain ⟨ins, h2, hm⟩ := Option.bind_eq_some_iff.mp hm
    obtain ⟨⟨r, outs⟩, h3, hm⟩ := Option.bind_eq_some_iff.mp hm
    by_cases hF : (flatR r && outs.all flatS) = true
    · have hm : (if (flatR r && outs.all flatS) = true then _ else _) = some (res, env') := hm
      rw [if_pos hF] at hm
      obtain ⟨e2, h4, hm⟩ := Option.map_eq_some_iff.mp hm
      cases hm
      rw [Bool.and_eq_true] at hF
      refine ⟨B, env, Hk, rs, e1, R, h1, fun vs Hk1 H1 R1 s1 o1 => ?_⟩
      show spF K fm (vs ++ []) H1 Q E0
      rw [List.append_nil]
      have sm : Same Hk1 (lent rs io e1 σ Hk1 H1) := lent_same R1
      have A : ArgsOk K (lent rs io e1 σ Hk1 H1) H1 ins vs := args_ok R1 sm (lent_no R1 hL) (fun i j s a _ g0 g1 g2 g3 g4 => by
        unfold lent
        rw [if_pos (.inl ⟨i, j, s, g1, g0, g2, g3, g4⟩)]) (fun _ n a g => by
        unfold lent
        rw [if_pos (.inr ⟨n, g⟩)]) h2 o1
      refine ⟨_, ins, r, outs, lent_ex R1.ex, A, h3, fun v Hk2 H2 p => ?_⟩
      have R2 : Rel K B env' σ Hk1 H2 := R1.after h2 o1 h4 (.refl _) ((sm.trans p.kn).trans p.ex) (fun a g1 g2 => absurd g2 g1) p.kp (fun k a c' e1 e2 => by
        obtain ⟨c2, g1, _, g2⟩ := p.io k a e1
        rw [e2] at g1
        cases g1
        have hfl := List.all_eq_true.mp hF.2 _ (List.mem_of_getElem? e2)
        cases c' with
        | lst ds =>
          obtain ⟨xs, y1, y2⟩ := g2
          exact ⟨xs, y1, flat_dvs Hk1 hfl y2⟩
        | dct es =>
          obtain ⟨xs, y1, y2⟩ := g2
          exact ⟨xs, y1, flat_kvs Hk1 hfl y2⟩) fun k a e => let ⟨c2, g1, _⟩ := p.io k a e; ⟨c2, g1⟩
      refine k v Hk1 H2 R2 s1 ?_
      have hres := p.res
      have hfr := hF.1
      cases r with
      | dat d => exact flat_dv hfr hres Hk1
      | slt i => cases hres
      | pv p => cases hres
      | new c =>
        cases c with
        | lst ds =>
          obtain ⟨a, rfl, q1, q2, xs, y1, y2⟩ := hres
          exact ⟨a, rfl, R1.kfree q2, R1.fresh0 q2, ⟨xs, y1, flat_dvs Hk1 hfr y2⟩, R1.pfree q2, res_after R1 h4 q2⟩
        | dct es =>
          obtain ⟨a, rfl, q1, q2, xs, y1, y2⟩ := hres
          exact ⟨a, rfl, R1.kfree q2, R1.fresh0 q2, ⟨xs, y1, flat_kvs Hk1 hfr y2⟩, R1.pfree q2, res_after R1 h4 q2⟩
    · have hm : (if (flatR r && outs.all flatS) = true then _ else _) = some (res, env') := hm
      rw [if_neg hF] at hm
      cases hm
  · have hm : (if lentOk io rs = true then _ else _) = some (res, env') := hm
    rw [if_neg hL] at hm
    cases hm
end
section
variable {X : Cx} {k : Nat} {f : Addr} {fd : FuncData} {ps : List Str} {fm : FM} {x : Str} {p pos : Pos} {e : Expr} {es : List Expr} {ms : MA}
theorem ve_callV (io : Option Nat) (F : FnOk X.prog X.w X.K X.mg X.base CX0 k f fd ps (spF X.K fm)) (hr : Room k X.A) (hm : X.mg x = some (.ref f)) (hk : PySem.W.keepIn X.K (.ref f) = true) (hb : Binds X.K fd ps [])
    (ha : VA X (e :: es) ms) (hg : Gl X x := by rfl) (hdb : (x == ("__debug__" : Str)) = false := by decide) (he : starEach (e :: es) X.env = (false, eval e X.env) :: starEach es X.env := by rfl) (hpl : (backTo pos (starEach es X.env)).any (·.1) = false := by rfl) :
    VE X (.Call (.Name x p) (e :: es) [] pos) (mCallV fm io ms) := (pe_call F hr hg hm hk hb .nil pass0 ha hdb he hpl).imp fun _ _ _ => callV_run
theorem ve_callF (io : Option Nat) (F : FnOk X.prog X.w X.K X.mg X.base CX0 k f fd ps (spF X.K fm)) (hr : Room k X.A) (hm : X.mg x = some (.ref f)) (hk : PySem.W.keepIn X.K (.ref f) = true) (hb : Binds X.K fd ps [])
    (ha : VA X (e :: es) ms) (hg : Gl X x := by rfl) (hdb : (x == ("__debug__" : Str)) = false := by decide) (he : starEach (e :: es) X.env = (false, eval e X.env) :: starEach es X.env := by rfl) (hpl : (backTo pos (starEach es X.env)).any (·.1) = false := by rfl) :
    VE X (.Call (.Name x p) (e :: es) [] pos) (mCallF fm io ms) := (pe_call F hr hg hm hk hb .nil pass0 ha hdb he hpl).imp fun _ _ _ => callF_run
end
end Cm
namespace Cm
open PySem L2
/-! ### operators -/
section
variable {X : Cx} {K : PySem.W.Frag}
theorem opr_or {f : Value → Value → Sem Value} {r r' : R2} (h : OpR X f r) (h' : OpR X f r') : OpR X f (fun x y H Q => r x y H Q ∨ r' x y H Q) := by
  intro pins s σ H x y v u Q I rx ry q
  rcases q with q | q
  · exact h pins s σ H x y v u Q I rx ry q
  · exact h' pins s σ H x y v u Q I rx ry q
theorem callr_or {f : Value} {r r' : List V → Hp → VK → Prop} (h : CallR X f r) (h' : CallR X f r') : CallR X f (fun xs H Q => r xs H Q ∨ r' xs H Q) := by
  intro pins s σ H xs us Q I r q
  rcases q with q | q
  · exact h pins s σ H xs us Q I r q
  · exact h' pins s σ H xs us Q I r q
def oI (i : Int) : Option Res := some (.dat (.int i))
def oB (b : Bool) : Option Res := some (.dat (.bool b))
def oS (x : Str) : Option Res := some (.dat (.str x))
/-- + -/
def gAdd : PyData → PyData → Option Res
  | .int i, .int j => some (.dat (.int (i + j)))
  | .str x, .str y => if x.length + y.length ≤ 100000 then some (.dat (.str (x ++ y))) else none
  | .list xs, .list ys => if xs.length + ys.length ≤ 100000 then some (.new (.lst (xs ++ ys))) else none
  | _, _ => none
def rAdd3 : R2 := fun x y H Q => (rI0 (fun i j => .int (i + j)) x y H Q) ∨ ((∃ i j, x = .str i ∧ y = .str j ∧ i.length + j.length ≤ sizeLine ∧ Q (.str (i ++ j)) H) ∨ rCat x y H Q)
theorem or_add : OpR X (binaryOp .Add) rAdd3 := opr_or op_add (opr_or op_add_str op_cat)
theorem od_add : OpD K rAdd3 gAdd := by
  intro Hk H x y dx dy res Q e vx vy h q
  unfold gAdd at h
  split at h
  · cases h
    exact .inl ⟨_, _, vx.int, vy.int, q _ _ (.inl ⟨rfl, .int _⟩)⟩
  · split at h
    · rename_i hz
      cases h
      exact .inr (.inl ⟨_, _, vx.str, vy.str, sz_of hz, q _ _ (.inl ⟨rfl, .str _⟩)⟩)
    · cases h
  · split at h
    · rename_i hz
      cases h
      obtain ⟨a, vs, rfl, h1, h2⟩ := vx.list e
      obtain ⟨b, ws, rfl, h3, h4⟩ := vy.list e
      exact .inr (.inr ⟨a, b, vs, ws, rfl, rfl, h1, h3, by rw [h2.len, h4.len]; exact sz_of hz, fun p hp => q _ _ ⟨p, _, rfl, hp, rfl, h2.append h4⟩⟩)
    · cases h
  · cases h
def gMinus : PyData → PyData → Option Res
  | .int i, .int j => some (.dat (.int (i - j)))
  | _, _ => none
theorem od_sub : OpD K (rI0 (fun i j => .int (i - j))) gMinus := by
  intro Hk H x y dx dy res Q e vx vy h q
  unfold gMinus at h
  split at h
  · cases h
    exact ⟨_, _, vx.int, vy.int, q _ _ (.inl ⟨rfl, .int _⟩)⟩
  · cases h
/-- * -/
def repD (ds : List PyData) (k : Int) : List PyData := (List.replicate k.toNat ds).flatten
def gMul : PyData → PyData → Option Res
  | .int i, .int j => if (-(2 ^ 64) < i ∧ i < 2 ^ 64) ∨ (-(2 ^ 64) < j ∧ j < 2 ^ 64) then some (.dat (.int (i * j))) else none
  | .list ds, .int k => if -(2 ^ 63) ≤ k ∧ k < 2 ^ 63 ∧ ds.length * k.toNat ≤ 100000 then some (.new (.lst (repD ds k))) else none
  | _, _ => none
def rMul2 : R2 := fun x y H Q => rI CMul (fun i j => .int (i * j)) x y H Q ∨ rRep x y H Q
theorem or_mul : OpR X (binaryOp .Mult) rMul2 := opr_or op_mul op_rep
theorem dv_rep {Hk : Hp} {vs : List V} {ds : List PyData} (h : DvAll K Hk vs ds) : ∀ n : Nat, DvAll K Hk (List.replicate n vs).flatten (List.replicate n ds).flatten
  | 0 => .nil
  | n + 1 => by
    rw [List.replicate_succ, List.replicate_succ, List.flatten_cons, List.flatten_cons]
    exact h.append (dv_rep h n)
theorem od_mul : OpD K rMul2 gMul := by
  intro Hk H x y dx dy res Q e vx vy h q
  unfold gMul at h
  split at h
  · split at h
    · rename_i hz
      cases h
      exact .inl ⟨_, _, vx.int, vy.int, hz, q _ _ (.inl ⟨rfl, .int _⟩)⟩
    · cases h
  · split at h
    · rename_i hz
      cases h
      obtain ⟨a, vs, rfl, h1, h2⟩ := vx.list e
      exact .inr ⟨a, _, vs, rfl, vy.int, h1, hz.1, hz.2.1, by rw [h2.len]; exact sz_of hz.2.2, fun p hp => q _ _ ⟨p, _, rfl, hp, rfl, dv_rep h2 _⟩⟩
    · cases h
  · cases h
def gDiv : PyData → PyData → Option Res
  | .int i, .int j => if 0 < j ∧ j < 1073741824 then some (.dat (.int (i / j))) else none
  | _, _ => none
theorem od_div : OpD K (rI CDiv (fun i j => .int (i / j))) gDiv := by
  intro Hk H x y dx dy res Q e vx vy h q
  unfold gDiv at h
  split at h
  · split at h
    · rename_i hz
      cases h
      exact ⟨_, _, vx.int, vy.int, hz, q _ _ (.inl ⟨rfl, .int _⟩)⟩
    · cases h
  · cases h
def gMod : PyData → PyData → Option Res
  | .int i, .int j => if 0 < j then some (.dat (.int (i % j))) else none
  | _, _ => none
theorem od_mod : OpD K (rI (fun _ j => 0 < j) (fun i j => .int (i % j))) gMod := by
  intro Hk H x y dx dy res Q e vx vy h q
  unfold gMod at h
  split at h
  · split at h
    · rename_i hz
      cases h
      exact ⟨_, _, vx.int, vy.int, hz, q _ _ (.inl ⟨rfl, .int _⟩)⟩
    · cases h
  · cases h
def gPow : PyData → PyData → Option Res
  | .int i, .int j => if 0 ≤ j ∧ j ≤ 1000000 ∧ i.natAbs < 2 ^ 64 then some (.dat (.int (i ^ j.toNat))) else none
  | _, _ => none
theorem od_pow : OpD K (rI CPow (fun i j => .int (i ^ j.toNat))) gPow := by
  intro Hk H x y dx dy res Q e vx vy h q
  unfold gPow at h
  split at h
  · split at h
    · rename_i hz
      cases h
      exact ⟨_, _, vx.int, vy.int, hz, q _ _ (.inl ⟨rfl, .int _⟩)⟩
    · cases h
  · cases h
def gNeg : PyData → Option Res
  | .int i => some (.dat (.int (-i)))
  | _ => none
theorem ud_neg : UnD K (rU fun i => .int (-i)) gNeg := by
  intro Hk H x dx res Q e vx h q
  unfold gNeg at h
  split at h
  · cases h
    exact ⟨_, vx.int, q _ _ (.inl ⟨rfl, .int _⟩)⟩
  · cases h
/-! ### comparisons -/
def gCmp (p : Int → Int → Bool) : PyData → PyData → Option Res
  | .int i, .int j => some (.dat (.bool (p i j)))
  | _, _ => none
theorem od_cmp {p : Int → Int → Bool} : OpD K (rI0 fun i j => .bl (p i j)) (gCmp p) := by
  intro Hk H x y dx dy res Q e vx vy h q
  unfold gCmp at h
  split at h
  · cases h
    exact ⟨_, _, vx.int, vy.int, q _ _ (.inl ⟨rfl, .bl _⟩)⟩
  · cases h
def scalD : PyData → PyData → Bool
  | .none, .none => true | .none, .int _ => true | .int _, .none => true | .none, .bool _ => true | .bool _, .none => true | .none, .str _ => true | .str _, .none => true
  | .int _, .int _ => true | .bool _, .bool _ => true | .str _, .str _ => true
  | .int _, .str _ => true | .str _, .int _ => true | .bool _, .str _ => true | .str _, .bool _ => true
  | _, _ => false
def gEq (neg : Bool) (dx dy : PyData) : Option Res := if (scalD dx dy || (SeqAt.shaped dx && SeqAt.shaped dy)) = true then some (.dat (.bool (neg ^^ PyData.eqv dx dy))) else none
def rEqU (K : PySem.W.Frag) : R2 := fun x y H Q => rEq x y H Q ∨ rEqD K x y H Q
def rNeU (K : PySem.W.Frag) : R2 := fun x y H Q => rNe x y H Q ∨ rNeD K x y H Q
theorem or_eq (hu : X.A.units + 64 < cLine) : OpR X (compareOp .Eq) (rEqU X.K) := opr_or op_eq (op_eqD hu)
theorem or_ne (hu : X.A.units + 64 < cLine) : OpR X (compareOp .NotEq) (rNeU X.K) := opr_or op_ne (op_neD hu)
theorem scal_eq {Hk H : Hp} {x y : V} {dx dy : PyData} (vx : View K Hk H x dx) (vy : View K Hk H y dy) (h : scalD dx dy = true) : scal x y = true ∧ decide (x = y) = PyData.eqv dx dy := by
  cases dx with
  | none =>
    rw [vx.non]
    cases dy with
    | none => rw [vy.non]; exact ⟨rfl, rfl⟩
    | int j => rw [vy.int]; exact ⟨rfl, rfl⟩
    | bool j => rw [vy.bool]; exact ⟨rfl, rfl⟩
    | str j => rw [vy.str]; exact ⟨rfl, rfl⟩
    | _ => cases h
  | int i =>
    rw [vx.int]
    cases dy with
    | none => rw [vy.non]; exact ⟨rfl, rfl⟩
    | int j => rw [vy.int]; exact ⟨rfl, dec_int⟩
    | str j => rw [vy.str]; exact ⟨rfl, rfl⟩
    | _ => cases h
  | bool i =>
    rw [vx.bool]
    cases dy with
    | none => rw [vy.non]; exact ⟨rfl, rfl⟩
    | bool j => rw [vy.bool]; exact ⟨rfl, dec_bl⟩
    | str j => rw [vy.str]; exact ⟨rfl, rfl⟩
    | _ => cases h
  | str i =>
    rw [vx.str]
    cases dy with
    | none => rw [vy.non]; exact ⟨rfl, rfl⟩
    | int j => rw [vy.int]; exact ⟨rfl, rfl⟩
    | bool j => rw [vy.bool]; exact ⟨rfl, rfl⟩
    | str j => rw [vy.str]; exact ⟨rfl, dec_str⟩
    | _ => cases h
  | list _ => cases dy <;> cases h
  | tuple _ => cases dy <;> cases h
  | dict _ => cases dy <;> cases h
theorem od_eq : OpD K (rEqU K) (gEq false) := by
  intro Hk H x y dx dy res Q e vx vy h q
  unfold gEq at h
  split at h
  · rename_i hz
    cases h
    rw [Bool.false_xor] at q
    rcases Bool.or_eq_true_iff.mp hz with hz | hz
    · obtain ⟨h1, h2⟩ := scal_eq vx vy hz
      refine .inl ⟨h1, ?_⟩
      rw [h2]
      exact q _ _ (.inl ⟨rfl, .bl _⟩)
    · rw [Bool.and_eq_true] at hz
      exact .inr ⟨dx, dy, (vx.dv e).dp _ _ (SeqAt.canLay_of_shaped hz.1), (vy.dv e).dp _ _ (SeqAt.canLay_of_shaped hz.2), hz.1, hz.2, q _ _ (.inl ⟨rfl, .bl _⟩)⟩
  · cases h
theorem od_ne : OpD K (rNeU K) (gEq true) := by
  intro Hk H x y dx dy res Q e vx vy h q
  unfold gEq at h
  split at h
  · rename_i hz
    cases h
    rw [Bool.true_xor] at q
    rcases Bool.or_eq_true_iff.mp hz with hz | hz
    · obtain ⟨h1, h2⟩ := scal_eq vx vy hz
      refine .inl ⟨h1, ?_⟩
      rw [h2]
      exact q _ _ (.inl ⟨rfl, .bl _⟩)
    · rw [Bool.and_eq_true] at hz
      exact .inr ⟨dx, dy, (vx.dv e).dp _ _ (SeqAt.canLay_of_shaped hz.1), (vy.dv e).dp _ _ (SeqAt.canLay_of_shaped hz.2), hz.1, hz.2, q _ _ (.inl ⟨rfl, .bl _⟩)⟩
  · cases h
/-- is None -/
def isNoneD : PyData → Bool
  | .none => true
  | _ => false
def gIsN (neg : Bool) : PyData → PyData → Option Res
  | d, .none => some (.dat (.bool (neg ^^ isNoneD d)))
  | _, _ => none
theorem isN_v {Hk H : Hp} {x : V} {dx : PyData} (vx : View K Hk H x dx) (e : Same Hk H) : decide (x = .non) = isNoneD dx := by
  have h := vx.dv e
  cases h <;> rfl
theorem od_isN : OpD K (fun x y H Q => y = .non ∧ Q (.bl (decide (x = .non))) H) (gIsN false) := by
  intro Hk H x y dx dy res Q e vx vy h q
  unfold gIsN at h
  split at h
  · cases h
    refine ⟨vy.non, ?_⟩
    rw [isN_v vx e]
    rw [Bool.false_xor] at q
    exact q _ _ (.inl ⟨rfl, .bl _⟩)
  · cases h
theorem od_notN : OpD K (fun x y H Q => y = .non ∧ Q (.bl (!decide (x = .non))) H) (gIsN true) := by
  intro Hk H x y dx dy res Q e vx vy h q
  unfold gIsN at h
  split at h
  · cases h
    refine ⟨vy.non, ?_⟩
    rw [isN_v vx e]
    rw [Bool.true_xor] at q
    exact q _ _ (.inl ⟨rfl, .bl _⟩)
  · cases h
/-! ### subscripts -/
def gIx : PyData → PyData → Option Res
  | .list ds, .int i => (atI ds i).map .dat
  | .tuple ds, .int i => (atI ds i).map .dat
  | .str z, .int i => if z.length ≤ 100000 then (atI z.cps.toList i).map fun c => .dat (.str ⟨#[c]⟩) else none
  | _, _ => none
theorem at_dv {Hk : Hp} {vs : List V} {ds : List PyData} (h : DvAll K Hk vs ds) {i : Int} {d : PyData} (e : atI ds i = some d) : ∃ v, atI vs i = some v ∧ Dv K Hk v d := by
  unfold atI at e ⊢
  rw [h.len]
  obtain ⟨j, h1, h2⟩ := Option.bind_eq_some_iff.mp e
  obtain ⟨v, h3, h4⟩ := h.get j d h2
  exact ⟨v, by rw [h1]; exact h3, h4⟩
theorem od_ix : OpD K (rIx K) gIx := by
  intro Hk H x y dx dy res Q e vx vy h q
  unfold gIx at h
  split at h
  · obtain ⟨d, h1, rfl⟩ := Option.map_eq_some_iff.mp h
    obtain ⟨a, vs, rfl, g1, g2⟩ := vx.list e
    obtain ⟨v, g3, g4⟩ := at_dv g2 h1
    exact .inl ⟨a, vs, _, v, rfl, vy.int, SqL.of g1, g3, q _ _ (.inl ⟨rfl, g4⟩)⟩
  · obtain ⟨d, h1, rfl⟩ := Option.map_eq_some_iff.mp h
    obtain ⟨a, vs, rfl, g1, g2⟩ := vx.tup e
    obtain ⟨v, g3, g4⟩ := at_dv g2 h1
    exact .inr (.inl ⟨a, vs, _, v, rfl, vy.int, g1, g3, q _ _ (.inl ⟨rfl, g4⟩)⟩)
  · split at h
    · rename_i hz
      obtain ⟨c, h1, rfl⟩ := Option.map_eq_some_iff.mp h
      exact .inr (.inr ⟨_, _, c, vx.str, vy.int, sz_of hz, h1, q _ _ (.inl ⟨rfl, .str _⟩)⟩)
    · cases h
  · cases h
/-! ### slices -/
def cutD (ds : List PyData) (lo hi : Option Int) : List PyData := (ds.drop (HT.sIx ds.length 0 lo)).take (HT.sIx ds.length ds.length hi - HT.sIx ds.length 0 lo)
theorem cut_dv {Hk : Hp} {vs : List V} {ds : List PyData} (h : DvAll K Hk vs ds) (lo hi : Option Int) : DvAll K Hk (cutV vs lo hi) (cutD ds lo hi) := by
  unfold cutV cutD
  rw [h.len]
  exact (h.drop _).take _
abbrev MO := Sl → Option (Option Int × Sl)
def tO (K : PySem.W.Frag) (m : MO) : TO := fun σ H Q => ∃ B env Hk o env', Rel K B env σ Hk H ∧ m env = some (o, env') ∧ ∀ Hk' H', Rel K B env' σ Hk' H' → KSame Hk Hk' → Q o H'
def mNoPart : MO := fun env => some (none, env)
def mPart (m : ME) : MO := fun env => (m env).bind fun p => match p.1 with
  | .dat (.int i) => some (some i, p.2)
  | _ => none
abbrev VO (X : Cx) (e : Option Expr) (m : MO) : Prop := PO X e (tO X.K m)
theorem _root_.L2.PO.imp {X : Cx} {e : Option Expr} {t t' : TO} (h : PO X e t) (k : ∀ σ H Q, t' σ H Q → t σ H Q) : PO X e t' := ⟨fun pins s σ H Q I q => h.run pins s σ H Q I (k σ H Q q)⟩
theorem vo_none : VO X none mNoPart := po_none.imp fun σ H Q h => by
  obtain ⟨B, env, Hk, o, env', R, hm, k⟩ := h
  cases hm
  exact k Hk H R (.refl _)
theorem vo_some {e : Expr} {m : ME} (h : VE X e m) : VO X (some e) (mPart m) := (po_some h).imp fun σ H Q h => by
  obtain ⟨B, env, Hk, o, env', R, hm, k⟩ := h
  obtain ⟨⟨r, e1⟩, h1, hm⟩ := Option.bind_eq_some_iff.mp hm
  refine ⟨B, env, Hk, r, e1, R, h1, fun v Hk1 H1 R1 s1 o1 => ?_⟩
  cases r with
  | new c => cases hm
  | slt i => cases hm
  | pv p => cases hm
  | dat d =>
    cases d with
    | int i =>
      cases hm
      cases o1
      exact ⟨i, rfl, k Hk1 H1 R1 s1⟩
    | _ => cases hm
def SlD (K : PySem.W.Frag) (r : V → Option Int → Option Int → Hp → VK → Prop) (g : PyData → Option Int → Option Int → Option Res) : Prop := ∀ (Hk H : Hp) (x : V) (dx : PyData) (lo hi : Option Int) (res : Res) (Q : VK), Same Hk H → View K Hk H x dx → g dx lo hi = some res → (∀ v H', Out K Hk H res v H' → Q v H') → r x lo hi H Q
def mSl (g : PyData → Option Int → Option Int → Option Res) (m : ME) (ml mh : MO) : ME := fun env => (m env).bind fun p => (ml p.2).bind fun a => (mh a.2).bind fun b => (rdv b.2 (stab p.1)).bind fun dx => (g dx a.1 b.1).map fun r => (r, b.2)
theorem sl_run {r : V → Option Int → Option Int → Hp → VK → Prop} {g : PyData → Option Int → Option Int → Option Res} {m : ME} {ml mh : MO} (hg : SlD K r g) {σ : St} {H : Hp} {Q : VK} (h : tE K (mSl g m ml mh) σ H Q) : tSl r (tE K m) (tO K ml) (tO K mh) σ H Q := by
  obtain ⟨B, env, Hk, res, env', R, hm, k⟩ := h
  obtain ⟨⟨x, e1⟩, h1, hm⟩ := Option.bind_eq_some_iff.mp hm
  obtain ⟨⟨lo, e2⟩, h2, hm⟩ := Option.bind_eq_some_iff.mp hm
  obtain ⟨⟨hi, e3⟩, h3, hm⟩ := Option.bind_eq_some_iff.mp hm
  obtain ⟨dx, h4, hm⟩ := Option.bind_eq_some_iff.mp hm
  obtain ⟨res', h5, hm⟩ := Option.map_eq_some_iff.mp hm
  cases hm
  refine ⟨B, env, Hk, x, e1, R, h1, fun v Hk1 H1 R1 s1 o1 => ?_⟩
  obtain ⟨Hk1', R1', s1', o1'⟩ := R1.stab o1
  refine ⟨B, e1, Hk1', lo, e2, R1', h2, fun Hk2 H2 R2 s2 => ?_⟩
  refine ⟨B, e2, Hk2, hi, e3, R2, h3, fun Hk3 H3 R3 s3 => ?_⟩
  refine hg Hk3 H3 v dx lo hi res Q R3.ex (R3.view ((o1'.mono s2).mono s3) h4) h5 fun z H4 out => ?_
  obtain ⟨Hk4, R4, s4, o4⟩ := R3.out out
  exact k z Hk4 H4 R4 ((((s1.trans s1').trans s2).trans s3).trans s4) o4
theorem ve_slice {r : V → Option Int → Option Int → Hp → VK → Prop} {g : PyData → Option Int → Option Int → Option Res} {e : Expr} {lo hi : Option Expr} {m : ME} {ml mh : MO} {p2 pos : Pos} (hr : SlR X r) (hg : SlD X.K r g) (he : VE X e m) (hl : VO X lo ml) (hu : VO X hi mh) : VE X (.Subscript e (.Slice lo hi none p2) pos) (mSl g m ml mh) :=
  (pe_slice hr he hl hu).imp fun _ _ _ => sl_run hg
def gSlL : PyData → Option Int → Option Int → Option Res
  | .list ds, lo, hi => some (.new (.lst (cutD ds lo hi)))
  | _, _, _ => none
theorem sd_list : SlD K (rSlL K) gSlL := by
  intro Hk H x dx lo hi res Q e vx h q
  unfold gSlL at h
  split at h
  · cases h
    obtain ⟨a, vs, rfl, g1, g2⟩ := vx.list e
    exact ⟨a, vs, rfl, SqL.of g1, fun p hp => q _ _ ⟨p, _, rfl, hp, rfl, cut_dv g2 lo hi⟩⟩
  · cases h
/-- script[a:b] -/
def mSlScr (i : Nat) (ml mh : MO) : ME := fun env => match env[i]? with
  | some (.scr ns) => (ml env).bind fun a => (mh a.2).map fun b => (.new (.lst (cutD (ns.map .int) a.1 b.1)), b.2)
  | _ => none
theorem dv_ints {Hk : Hp} : ∀ ns : List Int, DvAll K Hk (ns.map V.int) (ns.map .int)
  | [] => .nil
  | n :: ns => .cons (.int n) (dv_ints ns)
theorem slScr_run {i : Nat} {ml mh : MO} {σ : St} {H : Hp} {Q : VK} (h : tE K (mSlScr i ml mh) σ H Q) : tSl (rSlL K) (tVar i) (tO K ml) (tO K mh) σ H Q := by
  obtain ⟨B, env, Hk, res, env', R, hm, k⟩ := h
  unfold mSlScr at hm
  split at hm
  · rename_i ns he
    obtain ⟨⟨lo, e2⟩, h2, hm⟩ := Option.bind_eq_some_iff.mp hm
    obtain ⟨⟨hi, e3⟩, h3, hm⟩ := Option.map_eq_some_iff.mp hm
    cases hm
    obtain ⟨o, g1, a, rfl, g2⟩ := R.slot i _ he
    refine ⟨_, g1, B, env, Hk, lo, e2, R, h2, fun Hk2 H2 R2 s2 => ?_⟩
    refine ⟨B, e2, Hk2, hi, _, R2, h3, fun Hk3 H3 R3 s3 => ?_⟩
    refine ⟨a, _, rfl, R3.ex.seq ((s2.trans s3).seq g2), fun p hp => ?_⟩
    obtain ⟨Hk4, R4, s4, o4⟩ := R3.out (r := .new (.lst (cutD (ns.map .int) lo hi))) ⟨p, _, rfl, hp, rfl, cut_dv (dv_ints ns) lo hi⟩
    exact k _ Hk4 _ R4 ((s2.trans s3).trans s4) o4
  · cases hm
theorem ve_sliceScr (i : Nat) {x : Str} {lo hi : Option Expr} {ml mh : MO} {p1 p2 pos : Pos} (hl : VO X lo ml) (hu : VO X hi mh) (hN : X.N[i]? = some x := by rfl) (hv : Vis X.env.scope x := by first | exact Or.inl rfl | exact Or.inr (Or.inl rfl) | exact Or.inr (Or.inr rfl)) (hd : (x == ("__debug__" : Str)) = false := by decide)
    (hcd : (x == ("__classdict__" : Str)) = false := by decide) : VE X (.Subscript (.Name x p1) (.Slice lo hi none p2) pos) (mSlScr i ml mh) := (pe_slice sl_list (pe_var hN hv hd hcd) hl hu).imp fun _ _ _ => slScr_run
/-! ### built-ins -/
def gLen : List PyData → Option Res
  | [.list ds] => some (.dat (.int ds.length))
  | [.tuple ds] => some (.dat (.int ds.length))
  | [.str x] => if x.length ≤ 100000 then some (.dat (.int x.length)) else none
  | _ => none
theorem cd_len : CallD K (fun xs H Q => ∃ x n, xs = [x] ∧ LenV K x H n ∧ Q (.int n) H) gLen := by
  intro Hk H vs ds res Q e hv h q
  unfold gLen at h
  split at h
  · cases h
    cases hv with
    | cons v1 v2 =>
      cases v2
      obtain ⟨a, ws, rfl, g1, g2⟩ := v1.list e
      exact ⟨_, _, rfl, .inl ⟨ws, SqL.of g1, rfl⟩, by rw [g2.len]; exact q _ _ (.inl ⟨rfl, .int _⟩)⟩
  · cases h
    cases hv with
    | cons v1 v2 =>
      cases v2
      obtain ⟨a, ws, rfl, g1, g2⟩ := v1.tup e
      exact ⟨_, _, rfl, .inr ⟨ws, g1, rfl⟩, by rw [g2.len]; exact q _ _ (.inl ⟨rfl, .int _⟩)⟩
  · split at h
    · rename_i hz
      cases h
      cases hv with
      | cons v1 v2 =>
        cases v2
        rw [v1.str]
        exact ⟨_, _, rfl, ⟨sz_of hz, rfl⟩, q _ _ (.inl ⟨rfl, .int _⟩)⟩
    · cases h
  · cases h
def gInt1 (f : Int → Int) : List PyData → Option Res
  | [.int i] => some (.dat (.int (f i)))
  | _ => none
theorem cd_int1 {f : Int → Int} : CallD K (fun xs H Q => ∃ i, xs = [.int i] ∧ Q (.int (f i)) H) (gInt1 f) := by
  intro Hk H vs ds res Q e hv h q
  unfold gInt1 at h
  split at h
  · cases h
    cases hv with
    | cons v1 v2 =>
      cases v2
      rw [v1.int]
      exact ⟨_, rfl, q _ _ (.inl ⟨rfl, .int _⟩)⟩
  · cases h
def gInt2 (f : Int → Int → Int) : List PyData → Option Res
  | [.int i, .int j] => some (.dat (.int (f i j)))
  | _ => none
theorem cd_int2 {f : Int → Int → Int} : CallD K (fun xs H Q => ∃ i j, xs = [.int i, .int j] ∧ Q (.int (f i j)) H) (gInt2 f) := by
  intro Hk H vs ds res Q e hv h q
  unfold gInt2 at h
  split at h
  · cases h
    cases hv with
    | cons v1 v2 =>
      cases v2 with
      | cons v2 v3 =>
        cases v3
        rw [v1.int, v2.int]
        exact ⟨_, _, rfl, q _ _ (.inl ⟨rfl, .int _⟩)⟩
  · cases h
def gInt : List PyData → Option Res
  | [.int i] => some (.dat (.int i))
  | [.bool b] => some (.dat (.int (if b then 1 else 0)))
  | _ => none
theorem cd_int : CallD K (fun xs H Q => (∃ i, xs = [.int i] ∧ Q (.int i) H) ∨ ∃ k, xs = [.bl k] ∧ Q (.int (if k then 1 else 0)) H) gInt := by
  intro Hk H vs ds res Q e hv h q
  unfold gInt at h
  split at h
  · cases h
    cases hv with
    | cons v1 v2 =>
      cases v2
      rw [v1.int]
      exact .inl ⟨_, rfl, q _ _ (.inl ⟨rfl, .int _⟩)⟩
  · cases h
    cases hv with
    | cons v1 v2 =>
      cases v2
      rw [v1.bool]
      exact .inr ⟨_, rfl, q _ _ (.inl ⟨rfl, .int _⟩)⟩
  · cases h
def gStr : List PyData → Option Res
  | [.int i] => if i.natAbs.log2 < 1920 then some (.dat (.str (toString i))) else none
  | _ => none
theorem cd_str : CallD K (fun xs H Q => ∃ i, xs = [.int i] ∧ i.natAbs.log2 < 1920 ∧ Q (.str (toString i)) H) gStr := by
  intro Hk H vs ds res Q e hv h q
  unfold gStr at h
  split at h
  · split at h
    · rename_i hz
      cases h
      cases hv with
      | cons v1 v2 =>
        cases v2
        rw [v1.int]
        exact ⟨_, rfl, hz, q _ _ (.inl ⟨rfl, .str _⟩)⟩
    · cases h
  · cases h
def intsD : List PyData → Option (List Int)
  | [] => some []
  | .int i :: ds => (intsD ds).map (i :: ·)
  | _ => none
def boolsD : List PyData → Option (List Bool)
  | [] => some []
  | .bool i :: ds => (boolsD ds).map (i :: ·)
  | _ => none
theorem ints_dv {Hk : Hp} : ∀ {ds : List PyData} {vs : List V} {ns : List Int}, DvAll K Hk vs ds → intsD ds = some ns → vs = ns.map V.int
  | [], _, ns, .nil, h => by cases h; rfl
  | .int i :: ds, _, ns, .cons h1 h2, h => by
    obtain ⟨ms, e1, e2⟩ := Option.map_eq_some_iff.mp h
    subst e2
    cases h1
    rw [ints_dv h2 e1]
    rfl
  | .none :: ds, _, ns, .cons h1 h2, h => by cases h
  | .bool _ :: ds, _, ns, .cons h1 h2, h => by cases h
  | .str _ :: ds, _, ns, .cons h1 h2, h => by cases h
  | .list _ :: ds, _, ns, .cons h1 h2, h => by cases h
  | .tuple _ :: ds, _, ns, .cons h1 h2, h => by cases h
  | .dict _ :: ds, _, ns, .cons h1 h2, h => by cases h
theorem bools_dv {Hk : Hp} : ∀ {ds : List PyData} {vs : List V} {ns : List Bool}, DvAll K Hk vs ds → boolsD ds = some ns → vs = ns.map V.bl
  | [], _, ns, .nil, h => by cases h; rfl
  | .bool i :: ds, _, ns, .cons h1 h2, h => by
    obtain ⟨ms, e1, e2⟩ := Option.map_eq_some_iff.mp h
    subst e2
    cases h1
    rw [bools_dv h2 e1]
    rfl
  | .none :: ds, _, ns, .cons h1 h2, h => by cases h
  | .int _ :: ds, _, ns, .cons h1 h2, h => by cases h
  | .str _ :: ds, _, ns, .cons h1 h2, h => by cases h
  | .list _ :: ds, _, ns, .cons h1 h2, h => by cases h
  | .tuple _ :: ds, _, ns, .cons h1 h2, h => by cases h
  | .dict _ :: ds, _, ns, .cons h1 h2, h => by cases h
def gSum : List PyData → Option Res
  | [.list ds] => (intsD ds).map fun ns => .dat (.int ns.sum)
  | _ => none
theorem cd_sum : CallD K (rSum K) gSum := by
  intro Hk H vs ds res Q e hv h q
  unfold gSum at h
  split at h
  · obtain ⟨ns, h1, rfl⟩ := Option.map_eq_some_iff.mp h
    cases hv with
    | cons v1 v2 =>
      cases v2
      obtain ⟨a, ws, rfl, g1, g2⟩ := v1.list e
      rw [ints_dv g2 h1] at g1
      exact ⟨a, ns, rfl, SqL.of g1, q _ _ (.inl ⟨rfl, .int _⟩)⟩
  · cases h
def gAll : List PyData → Option Res
  | [.list ds] => (boolsD ds).map fun ns => .dat (.bool (ns.all id))
  | _ => none
theorem cd_all : CallD K (rAll K) gAll := by
  intro Hk H vs ds res Q e hv h q
  unfold gAll at h
  split at h
  · obtain ⟨ns, h1, rfl⟩ := Option.map_eq_some_iff.mp h
    cases hv with
    | cons v1 v2 =>
      cases v2
      obtain ⟨a, ws, rfl, g1, g2⟩ := v1.list e
      rw [bools_dv g2 h1] at g1
      exact ⟨a, ns, rfl, SqL.of g1, q _ _ (.inl ⟨rfl, .bl _⟩)⟩
  · cases h
def gAny : List PyData → Option Res
  | [.list ds] => (boolsD ds).map fun ns => .dat (.bool (ns.any id))
  | _ => none
theorem cd_any : CallD K (rAny K) gAny := by
  intro Hk H vs ds res Q e hv h q
  unfold gAny at h
  split at h
  · obtain ⟨ns, h1, rfl⟩ := Option.map_eq_some_iff.mp h
    cases hv with
    | cons v1 v2 =>
      cases v2
      obtain ⟨a, ws, rfl, g1, g2⟩ := v1.list e
      rw [bools_dv g2 h1] at g1
      exact ⟨a, ns, rfl, SqL.of g1, q _ _ (.inl ⟨rfl, .bl _⟩)⟩
  · cases h
def gList : List PyData → Option Res
  | [.list ds] => some (.new (.lst ds))
  | [.tuple ds] => some (.new (.lst ds))
  | _ => none
theorem cd_list : CallD K (fun xs H Q => ∃ p ys, xs = [.ref p] ∧ (SqL K H p ys ∨ SqT K H p ys) ∧ ∀ l, H l = none → Q (.ref l) (upd H l (.lst ys))) gList := by
  intro Hk H vs ds res Q e hv h q
  unfold gList at h
  split at h
  · cases h
    cases hv with
    | cons v1 v2 =>
      cases v2
      obtain ⟨a, ws, rfl, g1, g2⟩ := v1.list e
      exact ⟨a, ws, rfl, .inl (SqL.of g1), fun l hl => q _ _ ⟨l, ws, rfl, hl, rfl, g2⟩⟩
  · cases h
    cases hv with
    | cons v1 v2 =>
      cases v2
      obtain ⟨a, ws, rfl, g1, g2⟩ := v1.tup e
      exact ⟨a, ws, rfl, .inr g1, fun l hl => q _ _ ⟨l, ws, rfl, hl, rfl, g2⟩⟩
  · cases h
/-! ### what is walked -/
def mRange1 (ms : MA) : MI := fun env => (ms env).bind fun p => (rdAll p.2 p.1).bind fun ds => match ds with
  | [.int j] => if -(2 ^ 62) ≤ j ∧ j < 2 ^ 62 then some ((List.range j.toNat).map fun i => .int (i : Nat), p.2) else none
  | _ => none
theorem iter_range {lo : Int} {n : Nat} {Hk : Hp} : IterOk K Hk (Itr lo n) ((List.range n).map fun i => .int (lo + (i : Nat))) := by
  intro Hk2 H2 _ _ i
  refine ⟨fun d hd => ?_, fun hl => ?_⟩
  · rw [List.getElem?_map] at hd
    obtain ⟨j, h1, rfl⟩ := Option.map_eq_some_iff.mp hd
    obtain ⟨h2, h3⟩ := List.getElem?_eq_some_iff.mp h1
    rw [List.getElem_range] at h3
    subst h3
    rw [List.length_range] at h2
    refine ⟨h2, fun x H' y => ?_⟩
    obtain ⟨rfl, rfl⟩ := y
    exact .inl ⟨rfl, .int _⟩
  · rw [List.length_map, List.length_range] at hl
    exact hl
theorem range1_run {ms : MA} {σ : St} {H : Hp} {R : It → Hp → Prop} (h : tI K (mRange1 ms) σ H R) : iRng1 (tA K ms) σ H R := by
  obtain ⟨B, env, Hk, ds, env', R0, hm, k⟩ := h
  obtain ⟨⟨rs, e1⟩, h1, hm⟩ := Option.bind_eq_some_iff.mp hm
  obtain ⟨es, h2, hm⟩ := Option.bind_eq_some_iff.mp hm
  refine ⟨B, env, Hk, rs, e1, R0, h1, fun vs Hk1 H1 R1 s1 o1 => ?_⟩
  have hv := R1.views o1 h2
  split at hm
  · rename_i j
    split at hm
    · rename_i hz
      cases hm
      cases hv with
      | cons v1 v2 =>
        cases v2
        rw [v1.int]
        refine ⟨j, rfl, hz.1, hz.2, k _ Hk1 H1 R1 s1 ?_⟩
        have := iter_range (K := K) (lo := 0) (n := j.toNat) (Hk := Hk1)
        simpa using this
    · cases hm
  · cases hm
theorem vi_range1 {tg a : Expr} {ms : MA} {p pos : Pos} (hm : X.mg "range" = none) (ha : VA X [a] ms) (hg : Gl X "range" := by rfl) (hs : starEach [a] X.env = [(false, eval a X.env)] := by rfl) : VI X tg (.Call (.Name "range" p) [a] [] pos) (mRange1 ms) := (pi_range1 hg hm ha hs).imp fun _ _ _ => range1_run
def mRange2 (ms : MA) : MI := fun env => (ms env).bind fun p => (rdAll p.2 p.1).bind fun ds => match ds with
  | [.int i, .int j] => if (-(2 ^ 62) ≤ i ∧ i < 2 ^ 62) ∧ -(2 ^ 62) ≤ j ∧ j < 2 ^ 62 then some ((List.range (j - i).toNat).map fun k => .int (i + (k : Nat)), p.2) else none
  | _ => none
theorem range2_run {ms : MA} {σ : St} {H : Hp} {R : It → Hp → Prop} (h : tI K (mRange2 ms) σ H R) : iRng2 (tA K ms) σ H R := by
  obtain ⟨B, env, Hk, ds, env', R0, hm, k⟩ := h
  obtain ⟨⟨rs, e1⟩, h1, hm⟩ := Option.bind_eq_some_iff.mp hm
  obtain ⟨es, h2, hm⟩ := Option.bind_eq_some_iff.mp hm
  refine ⟨B, env, Hk, rs, e1, R0, h1, fun vs Hk1 H1 R1 s1 o1 => ?_⟩
  have hv := R1.views o1 h2
  split at hm
  · rename_i i j
    split at hm
    · rename_i hz
      cases hm
      cases hv with
      | cons v1 v2 =>
        cases v2 with
        | cons v2 v3 =>
          cases v3
          rw [v1.int, v2.int]
          exact ⟨i, j, rfl, ⟨hz.1.1, hz.1.2, hz.2.1, hz.2.2⟩, k _ Hk1 H1 R1 s1 iter_range⟩
    · cases hm
  · cases hm
theorem vi_range2 {tg a b : Expr} {ms : MA} {p pos : Pos} (hm : X.mg "range" = none) (ha : VA X [a, b] ms) (hg : Gl X "range" := by rfl) (hs : starEach [a, b] X.env = [(false, eval a X.env), (false, eval b X.env)] := by rfl) (hs2 : starEach [b] X.env = [(false, eval b X.env)] := by rfl) : VI X tg (.Call (.Name "range" p) [a, b] [] pos) (mRange2 ms) := (pi_range2 hg hm ha hs hs2).imp fun _ _ _ => range2_run
/-- a list (frozen) -/
def mItL (m : ME) : MI := fun env => (mFrz m env).bind fun p => match p.1 with
  | .dat (.list ds) => some (ds, p.2)
  | _ => none
theorem iter_list {a : Addr} {xs : List V} {ds : List PyData} {Hk : Hp} (h : Hk a = some (.lst xs)) (hd : DvAll K Hk xs ds) : IterOk K Hk (Itl K a) ds := by
  intro Hk2 H2 s2 e2 i
  have hq : SqL K H2 a xs := SqL.of (e2 _ _ (s2 _ _ h))
  refine ⟨fun d hi => ?_, fun hl => ⟨xs, hq, by rw [hd.len]; exact hl⟩⟩
  obtain ⟨v, g1, g2⟩ := hd.get i d hi
  refine ⟨⟨xs, v, hq, g1⟩, fun x H' y => ?_⟩
  obtain ⟨rfl, y⟩ := y
  have := y xs hq
  rw [g1] at this
  cases this
  exact .inl ⟨rfl, dv_mono s2 _ _ g2⟩
theorem itL_run {m : ME} {σ : St} {H : Hp} {R : It → Hp → Prop} (h : tI K (mItL m) σ H R) : iList K (tE K (mFrz m)) σ H R := by
  obtain ⟨B, env, Hk, ds, env', R0, hm, k⟩ := h
  obtain ⟨⟨r, e1⟩, h1, hm⟩ := Option.bind_eq_some_iff.mp hm
  refine ⟨B, env, Hk, r, e1, R0, h1, fun v Hk1 H1 R1 s1 o1 => ?_⟩
  cases r with
  | new c => cases hm
  | slt i => cases hm
  | pv p => cases hm
  | dat d =>
    cases d with
    | list ds =>
      cases hm
      cases o1 with
      | lst g1 g2 => exact ⟨_, rfl, ⟨_, SqL.of (R1.ex _ _ g1)⟩, k _ Hk1 H1 R1 s1 (iter_list g1 g2)⟩
    | _ => cases hm
theorem vi_list {tg e : Expr} {m : ME} (h : VE X e m) : VI X tg e (mItL m) := (pi_list (ve_frz h)).imp fun _ _ _ => itL_run
/-- a tuple -/
def mItT (m : ME) : MI := fun env => (mFrz m env).bind fun p => match p.1 with
  | .dat (.tuple ds) => some (ds, p.2)
  | _ => none
theorem iter_tup {a : Addr} {xs : List V} {ds : List PyData} {Hk : Hp} (h : SqT K Hk a xs) (hd : DvAll K Hk xs ds) : IterOk K Hk (Itt K a) ds := by
  intro Hk2 H2 s2 e2 i
  have hq : SqT K H2 a xs := same_tup e2 (same_tup s2 h)
  refine ⟨fun d hi => ?_, fun hl => ⟨xs, hq, by rw [hd.len]; exact hl⟩⟩
  obtain ⟨v, g1, g2⟩ := hd.get i d hi
  refine ⟨⟨xs, v, hq, g1⟩, fun x H' y => ?_⟩
  obtain ⟨rfl, y⟩ := y
  have := y xs hq
  rw [g1] at this
  cases this
  exact .inl ⟨rfl, dv_mono s2 _ _ g2⟩
theorem itT_run {m : ME} {σ : St} {H : Hp} {R : It → Hp → Prop} (h : tI K (mItT m) σ H R) : iTup K (tE K (mFrz m)) σ H R := by
  obtain ⟨B, env, Hk, ds, env', R0, hm, k⟩ := h
  obtain ⟨⟨r, e1⟩, h1, hm⟩ := Option.bind_eq_some_iff.mp hm
  refine ⟨B, env, Hk, r, e1, R0, h1, fun v Hk1 H1 R1 s1 o1 => ?_⟩
  cases r with
  | new c => cases hm
  | slt i => cases hm
  | pv p => cases hm
  | dat d =>
    cases d with
    | tuple ds =>
      cases hm
      cases o1 with
      | tup g1 g2 => exact ⟨_, rfl, ⟨_, same_tup R1.ex g1⟩, k _ Hk1 H1 R1 s1 (iter_tup g1 g2)⟩
    | _ => cases hm
theorem vi_tup {tg e : Expr} {m : ME} (h : VE X e m) : VI X tg e (mItT m) := (pi_tup (ve_frz h)).imp fun _ _ _ => itT_run
/-- enumerate(list) -/
def enumD : Nat → List PyData → List PyData
  | _, [] => []
  | i, d :: ds => .tuple [.int (i : Nat), d] :: enumD (i + 1) ds
theorem enumD_len : ∀ (i : Nat) (ds : List PyData), (enumD i ds).length = ds.length
  | _, [] => rfl
  | i, d :: ds => by
    show (enumD (i + 1) ds).length + 1 = _
    rw [enumD_len (i + 1) ds]
    rfl
theorem enumD_get : ∀ (k : Nat) (ds : List PyData) (i : Nat) (d : PyData), (enumD k ds)[i]? = some d → ∃ x, ds[i]? = some x ∧ d = .tuple [.int ((k + i : Nat) : Int), x]
  | _, [], i, d, h => by simp [enumD] at h
  | k, x :: ds, 0, d, h => by
    simp [enumD] at h
    exact ⟨x, rfl, by rw [← h]; simp⟩
  | k, x :: ds, i + 1, d, h => by
    obtain ⟨y, h1, h2⟩ := enumD_get (k + 1) ds i d (by simpa [enumD] using h)
    exact ⟨y, by simpa using h1, by rw [h2]; congr 3; omega⟩
def mEnum (ms : MA) : MI := fun env => (ms env).bind fun p => match p.1 with
  | [.dat (.list ds)] => some (enumD 0 ds, p.2)
  | _ => none
theorem enum_run {ms : MA} {σ : St} {H : Hp} {R : It → Hp → Prop} (h : tI K (mEnum ms) σ H R) : iEnum K (tA K ms) σ H R := by
  obtain ⟨B, env, Hk, ds, env', R0, hm, k⟩ := h
  obtain ⟨⟨rs, e1⟩, h1, hm⟩ := Option.bind_eq_some_iff.mp hm
  refine ⟨B, env, Hk, rs, e1, R0, h1, fun vs Hk1 H1 R1 s1 o1 => ?_⟩
  split at hm
  · rename_i xs he
    cases hm
    have he : rs = [.dat (.list xs)] := he
    subst he
    cases o1 with
    | cons o1 o2 =>
      cases o2
      cases o1 with
      | lst g1 g2 =>
        refine ⟨_, _, rfl, SqL.of (R1.ex _ _ g1), k _ Hk1 H1 R1 s1 ?_⟩
        intro Hk2 H2 s2 e2 i
        refine ⟨fun d hi => ?_, fun hl => ⟨_, SqL.of (e2 _ _ (s2 _ _ g1)), by rw [g2.len]; rw [enumD_len] at hl; exact hl⟩⟩
        obtain ⟨x, q1, rfl⟩ := enumD_get 0 _ i d hi
        obtain ⟨v, q2, q3⟩ := g2.get i x q1
        refine ⟨⟨_, v, SqL.of (e2 _ _ (s2 _ _ g1)), q2⟩, fun y H' z => ?_⟩
        obtain ⟨T, v', rfl, hT, rfl, hx⟩ := z
        have := hx _ (SqL.of (e2 _ _ (s2 _ _ g1)))
        rw [q2] at this
        cases this
        refine .inr ⟨T, _, _, rfl, rfl, hT, rfl, .cons ?_ (.cons (dv_mono s2 _ _ q3) .nil)⟩
        rw [Nat.zero_add]
        exact .int _
  · cases hm
theorem vi_enum {e : Expr} {ms : MA} {p pos tpos : Pos} {elts : List Expr} {kk : Nat} (hm : X.mg "enumerate" = none) (ha : VA X [e] ms) (hg : Gl X "enumerate" := by rfl) (hs : starEach [e] X.env = [(false, eval e X.env)] := by rfl) :
    VI X (.Tuple elts kk tpos) (.Call (.Name "enumerate" p) [e] [] pos) (mEnum ms) := (pi_enum hg hm ha hs).imp fun _ _ _ => enum_run
/-- zip(list, list) -/
def zipD : List PyData → List PyData → List PyData
  | x :: xs, y :: ys => .tuple [x, y] :: zipD xs ys
  | _, _ => []
theorem zipD_get : ∀ (xs ys : List PyData) (i : Nat) (d : PyData), (zipD xs ys)[i]? = some d → ∃ x y, xs[i]? = some x ∧ ys[i]? = some y ∧ d = .tuple [x, y]
  | [], _, i, d, h => by simp [zipD] at h
  | _ :: _, [], i, d, h => by simp [zipD] at h
  | x :: xs, y :: ys, 0, d, h => by
    simp [zipD] at h
    exact ⟨x, y, rfl, rfl, h.symm⟩
  | x :: xs, y :: ys, i + 1, d, h => by
    obtain ⟨a, b, h1, h2, h3⟩ := zipD_get xs ys i d (by simpa [zipD] using h)
    exact ⟨a, b, by simpa using h1, by simpa using h2, h3⟩
theorem zipD_len : ∀ (xs ys : List PyData), (zipD xs ys).length = min xs.length ys.length
  | [], _ => by simp [zipD]
  | _ :: _, [] => by simp [zipD]
  | x :: xs, y :: ys => by
    show (zipD xs ys).length + 1 = _
    rw [zipD_len xs ys, List.length_cons, List.length_cons]
    omega
def mZip (ms : MA) : MI := fun env => (ms env).bind fun p => match p.1 with
  | [.dat (.list xs), .dat (.list ys)] => some (zipD xs ys, p.2)
  | _ => none
theorem zip_run {ms : MA} {σ : St} {H : Hp} {R : It → Hp → Prop} (h : tI K (mZip ms) σ H R) : iZip K (tA K ms) σ H R := by
  obtain ⟨B, env, Hk, ds, env', R0, hm, k⟩ := h
  obtain ⟨⟨rs, e1⟩, h1, hm⟩ := Option.bind_eq_some_iff.mp hm
  refine ⟨B, env, Hk, rs, e1, R0, h1, fun vs Hk1 H1 R1 s1 o1 => ?_⟩
  split at hm
  · rename_i xs ys he
    cases hm
    have he : rs = [.dat (.list xs), .dat (.list ys)] := he
    subst he
    cases o1 with
    | cons o1 o2 =>
      cases o2 with
      | cons o2 o3 =>
        cases o3
        cases o1 with
        | lst g1 g2 =>
          cases o2 with
          | lst g3 g4 =>
            refine ⟨_, _, _, _, rfl, SqL.of (R1.ex _ _ g1), SqL.of (R1.ex _ _ g3), k _ Hk1 H1 R1 s1 ?_⟩
            intro Hk2 H2 s2 e2 i
            have w1 := SqL.of (K := K) (e2 _ _ (s2 _ _ g1))
            have w2 := SqL.of (K := K) (e2 _ _ (s2 _ _ g3))
            refine ⟨fun d hi => ?_, fun hl => ⟨_, _, w1, w2, by rw [g2.len, g4.len]; rw [zipD_len] at hl; omega⟩⟩
            obtain ⟨x, y, q1, q2, rfl⟩ := zipD_get _ _ i d hi
            obtain ⟨v, q3, q4⟩ := g2.get i x q1
            obtain ⟨u, q5, q6⟩ := g4.get i y q2
            refine ⟨⟨_, _, v, u, w1, w2, q3, q5⟩, fun z H' hz => ?_⟩
            obtain ⟨T, v', u', rfl, hT, rfl, hx, hy⟩ := hz
            have c1 := hx _ w1
            have c2 := hy _ w2
            rw [q3] at c1
            rw [q5] at c2
            cases c1
            cases c2
            exact .inr ⟨T, _, _, rfl, rfl, hT, rfl, .cons (dv_mono s2 _ _ q4) (.cons (dv_mono s2 _ _ q6) .nil)⟩
  · cases hm
theorem vi_zip {e e2 : Expr} {ms : MA} {p pos tpos : Pos} {elts : List Expr} {kk : Nat} (hm : X.mg "zip" = none) (ha : VA X [e, e2] ms) (hg : Gl X "zip" := by rfl) (hs : starEach [e, e2] X.env = (false, eval e X.env) :: starEach [e2] X.env := by rfl) (hpl : (backTo pos (starEach [e2] X.env)).any (·.1) = false := by rfl) :
    VI X (.Tuple elts kk tpos) (.Call (.Name "zip" p) [e, e2] [] pos) (mZip ms) := (pi_zip hg hm ha hs hpl).imp fun _ _ _ => zip_run
/-- reversed(list) -/
def mRev (ms : MA) : MI := fun env => (ms env).bind fun p => match p.1 with
  | [.dat (.list xs)] => some (xs.reverse, p.2)
  | _ => none
theorem rev_run {ms : MA} {σ : St} {H : Hp} {R : It → Hp → Prop} (h : tI K (mRev ms) σ H R) : iRev K (tA K ms) σ H R := by
  obtain ⟨B, env, Hk, ds, env', R0, hm, k⟩ := h
  obtain ⟨⟨rs, e1⟩, h1, hm⟩ := Option.bind_eq_some_iff.mp hm
  refine ⟨B, env, Hk, rs, e1, R0, h1, fun vs Hk1 H1 R1 s1 o1 => ?_⟩
  split at hm
  · rename_i xs he
    cases hm
    have he : rs = [.dat (.list xs)] := he
    subst he
    cases o1 with
    | cons o1 o2 =>
      cases o2
      cases o1 with
      | lst g1 g2 =>
        refine ⟨_, _, rfl, SqL.of (R1.ex _ _ g1), k _ Hk1 H1 R1 s1 ?_⟩
        intro Hk2 H2 s2 e2 i
        have w1 := SqL.of (K := K) (e2 _ _ (s2 _ _ g1))
        refine ⟨fun d hi => ?_, fun hl => by rw [List.length_reverse, ← g2.len] at hl; exact hl⟩
        have hlt : i < xs.length := by
          have := (List.getElem?_eq_some_iff.mp hi).1
          rw [List.length_reverse] at this
          exact this
        rw [List.getElem?_reverse hlt] at hi
        obtain ⟨v, q3, q4⟩ := g2.get _ d hi
        rw [← g2.len] at q3 hlt
        refine ⟨⟨hlt, _, v, w1, q3⟩, fun z H' hz => ?_⟩
        obtain ⟨rfl, hx⟩ := hz
        have c1 := hx _ w1
        rw [q3] at c1
        cases c1
        exact .inl ⟨rfl, dv_mono s2 _ _ q4⟩
  · cases hm
theorem vi_rev {tg e : Expr} {ms : MA} {p pos : Pos} (hm : X.mg "reversed" = none) (ha : VA X [e] ms) (hg : Gl X "reversed" := by rfl) (hs : starEach [e] X.env = [(false, eval e X.env)] := by rfl) :
    VI X tg (.Call (.Name "reversed" p) [e] [] pos) (mRev ms) := (pi_reversed hg hm ha hs).imp fun _ _ _ => rev_run
end
end Cm
namespace Cm
open PySem L2
/-- the list that a name may change -/
def lstAt (env : Sl) (i : Nat) : Option (Slot × List PyData) := match env[i]? with
  | some (.own (.lst ds)) => some (.own (.lst ds), ds)
  | some (.io k (.lst ds)) => some (.io k (.lst ds), ds)
  | _ => none
section
variable {X : Cx} {K : PySem.W.Frag} {B : Fb} {env : Sl} {σ : St} {Hk : Kn} {H : Hp}
theorem Rel.lstAt (R : Rel K B env σ Hk H) {i : Nat} {s : Slot} {ds : List PyData} (h : Cm.lstAt env i = some (s, ds)) : ∃ a vs, env[i]? = some s ∧ s.mut ∧ σ[i]? = some (some (V.ref a)) ∧ H a = some (.lst vs) ∧ DvAll K Hk vs ds := by
  unfold Cm.lstAt at h
  split at h
  · rename_i ds' e
    cases h
    obtain ⟨o, g1, a, rfl, q1, q2, vs, q3, q4⟩ := R.slot i _ e
    exact ⟨a, vs, e, trivial, g1, q3, q4⟩
  · rename_i k ds' e
    cases h
    obtain ⟨o, g1, a, rfl, q1, q2, vs, q3, q4⟩ := R.slot i _ e
    exact ⟨a, vs, e, trivial, g1, q3, q4⟩
  · cases h
/-- a method that changes its list -/
def MutD (K : PySem.W.Frag) (r : V → List V → Hp → VK → Prop) (f : List PyData → List PyData → Option (List PyData × PyData)) : Prop := ∀ (Hk H : Hp) (l : Addr) (vs ws : List V) (ds es ds' : List PyData) (ret : PyData) (Q : VK), Same Hk H → H l = some (.lst vs) → DvAll K Hk vs ds → DvAll K Hk ws es → f ds es = some (ds', ret) →
  (∀ vs' v, DvAll K Hk vs' ds' → Dv K Hk v ret → Q v (upd H l (.lst vs'))) → r (.ref l) ws H Q
def mMut (i : Nat) (f : List PyData → List PyData → Option (List PyData × PyData)) (ms : MA) : ME := fun env => (lstAt env i).bind fun _ => (ms env).bind fun p => (dats p.1).bind fun es => (lstAt p.2 i).bind fun q => (f q.2 es).map fun z => (.dat z.2, p.2.set i (q.1.put (.lst z.1)))
theorem mut_run {i : Nat} {r : V → List V → Hp → VK → Prop} {f : List PyData → List PyData → Option (List PyData × PyData)} {ms : MA} (hf : MutD K r f) {Q : VK} (h : tE K (mMut i f ms) σ H Q) : tBM K "list" r (tVar i) (tA K ms) σ H Q := by
  obtain ⟨B, env, Hk, res, env', R, hm, k⟩ := h
  obtain ⟨⟨s0, ds0⟩, h0, hm⟩ := Option.bind_eq_some_iff.mp hm
  obtain ⟨⟨rs, e1⟩, h1, hm⟩ := Option.bind_eq_some_iff.mp hm
  obtain ⟨es, h2, hm⟩ := Option.bind_eq_some_iff.mp hm
  obtain ⟨⟨s, ds⟩, h3, hm⟩ := Option.bind_eq_some_iff.mp hm
  obtain ⟨⟨ds', ret⟩, h4, hm⟩ := Option.map_eq_some_iff.mp hm
  cases hm
  obtain ⟨a, vs0, g1, g2, g3, g4, g5⟩ := R.lstAt h0
  refine ⟨_, g3, .inl ⟨rfl, vs0, SqL.of g4⟩, ?_⟩
  refine ⟨B, env, Hk, rs, e1, R, h1, fun ws Hk1 H1 R1 s1 o1 => ?_⟩
  obtain ⟨a', vs, q1, q2, q3, q4, q5⟩ := R1.lstAt h3
  rw [g3] at q3
  cases q3
  refine hf Hk1 H1 a vs ws ds es ds' ret Q R1.ex q4 q5 (o1.dats h2) h4 fun vs' v d1 d2 => ?_
  exact k v Hk1 _ (R1.change q1 q2 g3 ⟨vs', upd_same, d1⟩) s1 d2
theorem mut0_run {i : Nat} {r : V → List V → Hp → VK → Prop} {f : List PyData → List PyData → Option (List PyData × PyData)} (hf : MutD K r f) {Q : VK} (h : tE K (mMut i f mNil) σ H Q) : tBM0 K "list" r (tVar i) σ H Q := by
  obtain ⟨x, e, ty, q⟩ := mut_run hf h
  refine ⟨x, e, ty, ?_⟩
  obtain ⟨B, env, Hk, rs, env', R, hm, k⟩ := q
  cases hm
  exact k [] Hk H R (.refl _) .nil
theorem ve_mut {i : Nat} {x name : Str} {id : String} {r : V → List V → Hp → VK → Prop} {f : List PyData → List PyData → Option (List PyData × PyData)} {ms : MA} {e : Expr} {es : List Expr} {p apos cpos : Pos} (slot : PySem.Slot "list" name id) (hty : typeOf (.builtin id) = pure (.type "method_descriptor")) (hm : MtR X id r) (hf : MutD X.K r f) (ha : VA X (e :: es) ms)
    (hN : X.N[i]? = some x := by rfl) (hv : Vis X.env.scope x := by first | exact Or.inl rfl | exact Or.inr (Or.inl rfl) | exact Or.inr (Or.inr rfl)) (hd : (x == ("__debug__" : Str)) = false := by decide) (hcd : (x == ("__classdict__" : Str)) = false := by decide)
    (hbase : attributeBase (.Name x p) name X.env (eval (.Name x p) X.env) = eval (.Name x p) X.env := by rfl)
    (hfew : ((backTo cpos (starEach (e :: es) X.env)).all (fun x => !x.1) && (backToKw cpos (keywordEach [] X.env)).all (fun x => x.1.isSome)
      && decide ((e :: es).length + ([] : List Keyword).length + (if ([] : List Keyword).isEmpty then 0 else 1) < 30)) = true := by rfl)
    (hline : (apos.endLine == cpos.line) = true := by rfl) (hs : starEach (e :: es) X.env = (false, eval e X.env) :: starEach es X.env := by rfl) (hplain : (backTo cpos (starEach es X.env)).any (·.1) = false := by rfl) :
    VE X (.Call (.Attribute (.Name x p) name apos) (e :: es) [] cpos) (mMut i f ms) :=
  (pe_bm PySem.F.plainAttrs_list slot hty hm (pe_var hN hv hd hcd) ha hbase hfew hline hs hplain).imp fun _ _ _ => mut_run hf
theorem ve_mut0 {i : Nat} {x name : Str} {id : String} {r : V → List V → Hp → VK → Prop} {f : List PyData → List PyData → Option (List PyData × PyData)} {p apos cpos : Pos} (slot : PySem.Slot "list" name id) (hty : typeOf (.builtin id) = pure (.type "method_descriptor")) (hm : MtR X id r) (hf : MutD X.K r f)
    (hN : X.N[i]? = some x := by rfl) (hv : Vis X.env.scope x := by first | exact Or.inl rfl | exact Or.inr (Or.inl rfl) | exact Or.inr (Or.inr rfl)) (hd : (x == ("__debug__" : Str)) = false := by decide) (hcd : (x == ("__classdict__" : Str)) = false := by decide)
    (hbase : attributeBase (.Name x p) name X.env (eval (.Name x p) X.env) = eval (.Name x p) X.env := by rfl) (hline : (apos.endLine == cpos.line) = true := by rfl) :
    VE X (.Call (.Attribute (.Name x p) name apos) [] [] cpos) (mMut i f mNil) :=
  (pe_bm0 PySem.F.plainAttrs_list slot hty hm (pe_var hN hv hd hcd) hbase hline).imp fun _ _ _ => mut0_run hf
def fApp : List PyData → List PyData → Option (List PyData × PyData)
  | ds, [d] => if ds.length < 100000 then some (ds ++ [d], .none) else none
  | _, _ => none
theorem md_append : MutD K rAppend fApp := by
  intro Hk H l vs ws ds es ds' ret Q e hl hd he h q
  unfold fApp at h
  split at h
  · split at h
    · rename_i hz
      cases h
      cases he with
      | cons h1 h2 =>
        cases h2
        exact ⟨l, vs, _, rfl, rfl, hl, by rw [hd.len]; exact Nat.lt_of_lt_of_le hz (by decide), q _ _ (hd.append (.cons h1 .nil)) .non⟩
    · cases h
  · cases h
def fExt : List PyData → List PyData → Option (List PyData × PyData)
  | ds, [.list es] => if ds.length + es.length ≤ 100000 then some (ds ++ es, .none) else none
  | _, _ => none
theorem md_extend : MutD K rExtend fExt := by
  intro Hk H l vs ws ds es ds' ret Q e hl hd he h q
  unfold fExt at h
  split at h
  · split at h
    · rename_i hz
      cases h
      cases he with
      | cons h1 h2 =>
        cases h2
        cases h1 with
        | lst g1 g2 => exact ⟨l, _, vs, _, rfl, rfl, hl, e _ _ g1, by rw [hd.len, g2.len]; exact sz_of hz, q _ _ (hd.append g2) .non⟩
    · cases h
  · cases h
def fRev : List PyData → List PyData → Option (List PyData × PyData)
  | ds, [] => some (ds.reverse, .none)
  | _, _ => none
theorem md_reverse : MutD K rReverse fRev := by
  intro Hk H l vs ws ds es ds' ret Q e hl hd he h q
  unfold fRev at h
  split at h
  · cases h
    cases he
    exact ⟨l, vs, rfl, rfl, hl, q _ _ hd.rev .non⟩
  · cases h
def fPopAt : List PyData → List PyData → Option (List PyData × PyData)
  | ds, [.int i] => if 0 ≤ i ∧ i < 2 ^ 62 then (ds[i.toNat]?).map fun d => (ds.eraseIdx i.toNat, d) else none
  | _, _ => none
theorem md_popAt : MutD K rPopAt fPopAt := by
  intro Hk H l vs ws ds es ds' ret Q e hl hd he h q
  unfold fPopAt at h
  split at h
  · split at h
    · rename_i i hz
      obtain ⟨d, h1, h2⟩ := Option.map_eq_some_iff.mp h
      cases h2
      cases he with
      | cons g1 g2 =>
        cases g2
        cases g1
        obtain ⟨v, q1, q2⟩ := hd.get _ _ h1
        have hlt : i.toNat < vs.length := (List.getElem?_eq_some_iff.mp q1).1
        refine ⟨l, vs, i, i.toNat, v, rfl, rfl, hl, by omega, by omega, ?_, q1, q _ _ (hd.erase _) q2⟩
        have e1 : ¬ i < 0 := by omega
        have e2 : (decide (0 ≤ i) && decide (i < (vs.length : Int))) = true := by
          rw [decide_eq_true hz.1, decide_eq_true (by omega)]
          rfl
        simp only [seqIndex?, if_neg e1, e2, if_true]
    · cases h
  · cases h
/-! ### targets that are items -/
def mgSub (i : Nat) (mi : ME) : MG := fun d env => (lstAt env i).bind fun _ => (mi env).bind fun p => match p.1 with
  | .dat (.int k) => (lstAt p.2 i).bind fun q => (ixN q.2.length k).map fun j => p.2.set i (q.1.put (.lst (q.2.set j d)))
  | _ => none
theorem gsub_run {i : Nat} {mi : ME} {v : V} {Q : St → Hp → Prop} (h : tG K [] (mgSub i mi) v σ H Q) : gSub (tVar i) (tE K mi) rSetL v σ H Q := by
  obtain ⟨B, env, Hk, d, env', R, hd, hm, k⟩ := h
  obtain ⟨⟨s0, ds0⟩, h0, hm⟩ := Option.bind_eq_some_iff.mp hm
  obtain ⟨⟨r, e1⟩, h1, hm⟩ := Option.bind_eq_some_iff.mp hm
  obtain ⟨a, vs0, g1, g2, g3, g4, g5⟩ := R.lstAt h0
  refine ⟨_, g3, B, env, Hk, r, e1, R, h1, fun w Hk1 H1 R1 s1 o1 => ?_⟩
  cases r with
  | new c => cases hm
  | slt i => cases hm
  | pv p => cases hm
  | dat dd =>
    cases dd with
    | int ki =>
      obtain ⟨⟨s, ds⟩, h2, hm⟩ := Option.bind_eq_some_iff.mp hm
      obtain ⟨j, h3, hm⟩ := Option.map_eq_some_iff.mp hm
      cases hm
      cases o1
      obtain ⟨a', vs, q1, q2, q3, q4, q5⟩ := R1.lstAt h2
      rw [g3] at q3
      cases q3
      refine ⟨a, vs, ki, j, rfl, rfl, q4, by rw [q5.len]; exact h3, ?_⟩
      exact k σ Hk1 _ (R1.change q1 q2 g3 ⟨_, upd_same, q5.set (dv_mono s1 _ _ hd) j⟩) s1 (fun _ _ => rfl) rfl
    | _ => cases hm
theorem vg_sub {i : Nat} {x : Str} {mi : ME} {ix : Expr} {p pos : Pos} (hi : VE X ix mi) (hN : X.N[i]? = some x := by rfl) (hv : Vis X.env.scope x := by first | exact Or.inl rfl | exact Or.inr (Or.inl rfl) | exact Or.inr (Or.inr rfl)) (hd : (x == ("__debug__" : Str)) = false := by decide) (hcd : (x == ("__classdict__" : Str)) = false := by decide)
    (ha : ∀ v, assign (.Subscript (.Name x p) ix pos) X.env v = (do
      let ov ← holding [v] (eval (.Name x p) X.env)
      let iv ← holding [v, ov] (eval ix X.env)
      standAt pos
      holding [v, ov, iv] (setItem ov iv v)
      release [v, ov, iv] []) := by intro _; rfl) : VG X (.Subscript (.Name x p) ix pos) [] (mgSub i mi) := (pg_sub (pe_var hN hv hd hcd) hi set_list ha).imp fun _ _ _ _ => gsub_run
/-- target = value -/
def mAsg (m : ME) (g : MG) : MS := fun env => (mFrz m env).bind fun p => match p.1 with
  | .dat d => (g d p.2).map fun e => (.nx, e)
  | _ => none
theorem asg_run {m : ME} {g : MG} {js : List Nat} {W : WX} {D : Ends} (h : tS K W (mAsg m g) D σ H) : tAsg (tE K (mFrz m)) (tG K js g) D σ H := by
  obtain ⟨B, env, Hk, f, env', R, hm, k⟩ := h
  obtain ⟨⟨r, e1⟩, h1, hm⟩ := Option.bind_eq_some_iff.mp hm
  refine ⟨B, env, Hk, r, e1, R, h1, fun v Hk1 H1 R1 s1 o1 => ?_⟩
  cases r with
  | new c => cases hm
  | slt i => cases hm
  | pv p => cases hm
  | dat d =>
    obtain ⟨e2, h2, hm⟩ := Option.map_eq_some_iff.mp hm
    cases hm
    exact ⟨B, e1, Hk1, d, _, R1, o1, h2, fun σ' Hk2 H2 R2 s2 _ _ => k σ' Hk2 H2 R2 (s1.trans s2)⟩
theorem vs_asg {tg e : Expr} {m : ME} {g : MG} {js : List Nat} {pos : Pos} (he : VE X e m) (hg : VG X tg js g) (hs : swapsWithSole [tg] e pos.line X.env = pure false := by rfl) (hw : swappedStores [tg] e X.env = pure none := by rfl)
    (h1 : (assignEach [tg] X.env).map (·.2) = [assign tg X.env] := by rfl) : VS X (.Assign [tg] e pos) (mAsg m g) := fun W _ => (ps_asg (ve_frz he) hg hs hw h1).imp fun _ _ _ => asg_run
/-! ### name op= e, whole numbers -/
def mAugI (i : Nat) (f : Int → Int → Int) (m : ME) : MS := fun env => match env[i]? with
  | some (.val (.int a)) => (m env).bind fun p => match p.1 with
    | .dat (.int b) => some (.nx, p.2.set i (.val (.int (f a b))))
    | _ => none
  | _ => none
theorem augI_run {i : Nat} {f : Int → Int → Int} {m : ME} {W : WX} {D : Ends} (h : tS K W (mAugI i f m) D σ H) : tAug i (tE K m) (ipI f) D σ H := by
  obtain ⟨B, env, Hk, fl, env', R, hm, k⟩ := h
  unfold mAugI at hm
  split at hm
  · rename_i a ha
    obtain ⟨⟨r, e1⟩, h1, hm⟩ := Option.bind_eq_some_iff.mp hm
    obtain ⟨o, g1, v, rfl, g2⟩ := R.slot i _ ha
    cases g2
    refine ⟨_, g1, B, env, Hk, r, e1, R, h1, fun w Hk1 H1 R1 s1 o1 => ?_⟩
    cases r with
    | new c => cases hm
    | slt i => cases hm
    | pv p => cases hm
    | dat d =>
      cases d with
      | int b =>
        cases hm
        cases o1
        exact ⟨a, b, rfl, rfl, k _ Hk1 H1 (R1.setVal (.int _)) s1⟩
      | _ => cases hm
  · cases hm
theorem vs_augI {i : Nat} {f : Int → Int → Int} {x : Str} {e : Expr} {m : ME} {op : Operator} {pos' pos : Pos} (ho : PIp X op (ipI f)) (hN : X.N.Nodup) (he : VE X e m) (hi : X.N[i]? = some x := by rfl) (hx : Loc X.env.scope x := by first | exact Or.inl rfl | exact Or.inr rfl) (hf : X.fn x = true ∨ X.env.scope.names.lookup x = some .local := by first | exact .inl rfl | exact .inr rfl | assumption) :
    VS X (.AugAssign (.Name x pos') op e pos) (mAugI i f m) := fun W _ => (ps_aug hN hi hx he ho hf).imp fun _ _ _ => augI_run
/-! ### isinstance -/
def tyN : PyData → String
  | .none => "NoneType"
  | .bool _ => "bool"
  | .int _ => "int"
  | .str _ => "str"
  | .list _ => "list"
  | .tuple _ => "tuple"
  | .dict _ => "dict"
theorem tyN_x {v : V} {d : PyData} (h : Dv K H v d) : TyX K H v (.type (tyN d)) := by
  cases h with
  | non => exact .base .non
  | bl b => exact .base (.bl b)
  | int b => exact .base (.int b)
  | str b => exact .base (.str b)
  | lst h1 h2 => exact .base (.lst h1)
  | tup h1 h2 =>
    rcases h1 with (h1 | ⟨o, h1⟩) | ⟨o, its, n, h1, h3, _⟩
    · exact .base (.tup h1)
    · exact .fTuple h1
    · exact .kTuple h1 h3
  | dct h1 h2 =>
    rcases h1 with h1 | ⟨o, h1⟩
    · exact .base (.dK h1)
    · exact .fDict h1
def mIsi (T : String) (m : ME) : ME := fun env => (m env).bind fun p => (rdv p.2 (stab p.1)).bind fun d => (kitB (tyN d) T).map fun b => (.dat (.bool b), p.2)
theorem isi_run {T : String} {m : ME} {Q : VK} (h : tE K (mIsi T m) σ H Q) : tCB (rIsi K) (tCons (tE K m) (tCons (tC (.ty T)) tNil)) σ H Q := by
  obtain ⟨B, env, Hk, res, env', R, hm, k⟩ := h
  obtain ⟨⟨r, e1⟩, h1, hm⟩ := Option.bind_eq_some_iff.mp hm
  obtain ⟨d, h2, hm⟩ := Option.bind_eq_some_iff.mp hm
  obtain ⟨b, h3, hm⟩ := Option.map_eq_some_iff.mp hm
  cases hm
  refine ⟨B, env, Hk, r, e1, R, h1, fun v Hk1 H1 R1 s1 o1 => ?_⟩
  obtain ⟨Hk1', R1', s1', o1'⟩ := R1.stab o1
  have vw := (R1'.view o1' h2).dv R1'.ex
  exact ⟨v, .ty T, _, _, b, rfl, .ty T, tyN_x vw, kit_ty h3, k _ Hk1' H1 R1' (s1.trans s1') (.bl b)⟩
theorem ve_isi {T : Str} {id : String} {e : Expr} {m : ME} {p p2 pos : Pos} (he : VE X e m) (hm : X.mg "isinstance" = none) (hm2 : X.mg T = none) (hv : bootBuiltins T = some (.type id)) (hg : Gl X "isinstance" := by rfl) (hg2 : Gl X T := by rfl) (hn : T ≠ "__name__" := by decide) (hdb : (T == ("__debug__" : Str)) = false := by decide) (hb : bootBuiltins "isinstance" = some (.builtin "isinstance") := by decide +kernel)
    (hs : starEach (e :: [.Name T p2]) X.env = (false, eval e X.env) :: starEach [.Name T p2] X.env := by rfl) (hs2 : starEach [.Name T p2] X.env = (false, eval (.Name T p2) X.env) :: starEach [] X.env := by rfl) (hpl : (backTo pos (starEach [.Name T p2] X.env)).any (·.1) = false := by rfl) :
    VE X (.Call (.Name "isinstance" p) [e, .Name T p2] [] pos) (mIsi id m) :=
  (pe_callB call_isi hg hm hb (pa_cons he (pa_cons (pe_bltn (v := .ty id) hg2 hm2 hv rfl hn hdb) pa_nil hs2) hs) (by decide) (by decide) hs hpl).imp fun _ _ _ => isi_run
/-- isinstance(x, (S, T)) -/
def mIsi2 (S T : String) (m : ME) : ME := fun env => (m env).bind fun p => (rdv p.2 (stab p.1)).bind fun d => (kitB (tyN d) S).bind fun b => (kitB (tyN d) T).map fun c => (.dat (.bool (b || c)), p.2)
theorem isi2_run {S T : String} {m : ME} {Q : VK} (h : tE K (mIsi2 S T m) σ H Q) : tCB (rIsiT K) (tCons (tE K m) (tCons (tTup (tCons (tC (.ty S)) (tCons (tC (.ty T)) tNil))) tNil)) σ H Q := by
  obtain ⟨B, env, Hk, res, env', R, hm, k⟩ := h
  obtain ⟨⟨r, e1⟩, h1, hm⟩ := Option.bind_eq_some_iff.mp hm
  obtain ⟨d, h2, hm⟩ := Option.bind_eq_some_iff.mp hm
  obtain ⟨b, h3, hm⟩ := Option.bind_eq_some_iff.mp hm
  obtain ⟨c, h4, hm⟩ := Option.map_eq_some_iff.mp hm
  cases hm
  refine ⟨B, env, Hk, r, e1, R, h1, fun v Hk1 H1 R1 s1 o1 => ?_⟩
  obtain ⟨Hk1', R1', s1', o1'⟩ := R1.stab o1
  have vw := (R1'.view o1' h2).dv R1'.ex
  refine ⟨by show 2 ≤ sizeLine; decide, fun q hq => ?_⟩
  have s2 : Same H1 (upd H1 q (.tup [.ty S, .ty T])) := same_upd hq
  refine ⟨v, q, _, _, [.type S, .type T], b || c, rfl, upd_same, .cons (.ty S) (.cons (.ty T) .nil), tyN_x (dv_mono s2 _ _ vw), ?_, k _ Hk1' _ (R1'.laid hq) (s1.trans s1') (.bl _)⟩
  refine kitAny_cons (kit_ty h3) (fun hb => kitAny_cons (kit_ty h4) (fun hc => ?_) fun hc => by rw [hc, Bool.or_true]) fun hb => by rw [hb, Bool.true_or]
  rw [hb, hc]
  exact kitAny_nil
theorem ve_isi2 {S T : Str} {id1 id2 : String} {e : Expr} {m : ME} {p p1 p2 p3 pos : Pos} {kk} (he : VE X e m) (hm : X.mg "isinstance" = none) (hm1 : X.mg S = none) (hv1 : bootBuiltins S = some (.type id1)) (hm2 : X.mg T = none) (hv2 : bootBuiltins T = some (.type id2)) (hg : Gl X "isinstance" := by rfl) (hg1 : Gl X S := by rfl) (hg2 : Gl X T := by rfl) (hn1 : S ≠ "__name__" := by decide) (hdb1 : (S == ("__debug__" : Str)) = false := by decide) (hn2 : T ≠ "__name__" := by decide) (hdb2 : (T == ("__debug__" : Str)) = false := by decide) (hb : bootBuiltins "isinstance" = some (.builtin "isinstance") := by decide +kernel)
    (hs : starEach (e :: [.Tuple [.Name S p1, .Name T p2] kk p3]) X.env = (false, eval e X.env) :: starEach [.Tuple [.Name S p1, .Name T p2] kk p3] X.env := by rfl) (hs2 : starEach [.Tuple [.Name S p1, .Name T p2] kk p3] X.env = (false, eval (.Tuple [.Name S p1, .Name T p2] kk p3) X.env) :: starEach [] X.env := by rfl)
    (hs3 : starEach [.Name S p1, .Name T p2] X.env = (false, eval (.Name S p1) X.env) :: starEach [.Name T p2] X.env := by rfl) (hs4 : starEach [.Name T p2] X.env = (false, eval (.Name T p2) X.env) :: starEach [] X.env := by rfl) (hpl : (backTo pos (starEach [.Tuple [.Name S p1, .Name T p2] kk p3] X.env)).any (·.1) = false := by rfl) :
    VE X (.Call (.Name "isinstance" p) [e, .Tuple [.Name S p1, .Name T p2] kk p3] [] pos) (mIsi2 id1 id2 m) :=
  (pe_callB call_isiT hg hm hb (pa_cons he (pa_cons (pe_tup (pa_cons (pe_bltn (v := .ty id1) hg1 hm1 hv1 rfl hn1 hdb1) (pa_cons (pe_bltn (v := .ty id2) hg2 hm2 hv2 rfl hn2 hdb2) pa_nil hs4) hs3)) pa_nil hs2) hs) (by decide) (by decide) hs hpl).imp fun _ _ _ => isi2_run
end
end Cm
namespace Cm
open PySem L2
section
variable {X : Cx} {K : PySem.W.Frag} {B : Fb} {env : Sl} {σ : St} {Hk : Kn} {H : Hp}
/-! ### a range with steps -/
theorem iter_rangeC {lo c : Int} {n : Nat} {Hk : Hp} : IterOk K Hk (Itc lo c n) ((List.range n).map fun i => .int (lo + (i : Nat) * c)) := by
  intro Hk2 H2 _ _ i
  refine ⟨fun d hd => ?_, fun hl => ?_⟩
  · rw [List.getElem?_map] at hd
    obtain ⟨j, h1, rfl⟩ := Option.map_eq_some_iff.mp hd
    obtain ⟨h2, h3⟩ := List.getElem?_eq_some_iff.mp h1
    rw [List.getElem_range] at h3
    subst h3
    rw [List.length_range] at h2
    refine ⟨h2, fun x H' y => ?_⟩
    obtain ⟨rfl, rfl⟩ := y
    exact .inl ⟨rfl, .int _⟩
  · rw [List.length_map, List.length_range] at hl
    exact hl
def mRange3 (ms : MA) : MI := fun env => (ms env).bind fun p => (rdAll p.2 p.1).bind fun ds => match ds with
  | [.int i, .int j, .int c] => if (c ≠ 0 ∧ c.natAbs < 1073741824) ∧ Builtin.Range.small i j c = true then some ((List.range (Builtin.Range.rangeSize i j c).toNat).map fun k => .int (i + (k : Nat) * c), p.2) else none
  | _ => none
theorem rangeSize_nn (i j c : Int) : 0 ≤ Builtin.Range.rangeSize i j c := by
  unfold Builtin.Range.rangeSize
  split
  · split
    · have : 0 ≤ (j - i - 1) / c := Int.ediv_nonneg (by omega) (by omega)
      omega
    · omega
  · split
    · have : 0 ≤ (i - j - 1) / (-c) := Int.ediv_nonneg (by omega) (by omega)
      omega
    · omega
theorem range3_run {ms : MA} {σ : St} {H : Hp} {R : It → Hp → Prop} (h : tI K (mRange3 ms) σ H R) : iRng3 (tA K ms) σ H R := by
  obtain ⟨B, env, Hk, ds, env', R0, hm, k⟩ := h
  obtain ⟨⟨rs, e1⟩, h1, hm⟩ := Option.bind_eq_some_iff.mp hm
  obtain ⟨es, h2, hm⟩ := Option.bind_eq_some_iff.mp hm
  refine ⟨B, env, Hk, rs, e1, R0, h1, fun vs Hk1 H1 R1 s1 o1 => ?_⟩
  have hv := R1.views o1 h2
  split at hm
  · rename_i i j c
    split at hm
    · rename_i hz
      cases hm
      cases hv with
      | cons v1 v2 =>
        cases v2 with
        | cons v2 v3 =>
          cases v3 with
          | cons v3 v4 =>
            cases v4
            rw [v1.int, v2.int, v3.int]
            exact ⟨i, j, c, (Builtin.Range.rangeSize i j c).toNat, rfl, ⟨hz.1.1, hz.1.2, hz.2, (Int.toNat_of_nonneg (rangeSize_nn i j c)).symm⟩, k _ Hk1 H1 R1 s1 iter_rangeC⟩
    · cases hm
  · cases hm
theorem vi_range3 {tg a b c : Expr} {ms : MA} {p pos : Pos} (hm : X.mg "range" = none) (ha : VA X [a, b, c] ms) (hg : Gl X "range" := by rfl) (hs : starEach [a, b, c] X.env = (false, eval a X.env) :: starEach [b, c] X.env := by rfl) (hpl : (backTo pos (starEach [b, c] X.env)).any (·.1) = false := by rfl) : VI X tg (.Call (.Name "range" p) [a, b, c] [] pos) (mRange3 ms) := (pi_range3 hg hm ha hs hpl).imp fun _ _ _ => range3_run
/-! ### methods that change nothing -/
theorem ve_bm {T : String} {name : Str} {id : String} {r : V → List V → Hp → VK → Prop} {g : PyData → List PyData → Option Res} {o e : Expr} {es : List Expr} {m : ME} {ms : MA} {apos cpos : Pos} (pa : PySem.PlainAttrs T) (slot : PySem.Slot T name id) (hty : typeOf (.builtin id) = pure (.type "method_descriptor")) (hm : MtR X id r) (hg : MtD X.K r g) (ho : VE X o m) (ha : VA X (e :: es) ms)
    (hbase : attributeBase o name X.env (eval o X.env) = eval o X.env := by rfl)
    (hfew : ((backTo cpos (starEach (e :: es) X.env)).all (fun x => !x.1) && (backToKw cpos (keywordEach [] X.env)).all (fun x => x.1.isSome)
      && decide ((e :: es).length + ([] : List Keyword).length + (if ([] : List Keyword).isEmpty then 0 else 1) < 30)) = true := by rfl)
    (hline : (apos.endLine == cpos.line) = true := by rfl) (hs : starEach (e :: es) X.env = (false, eval e X.env) :: starEach es X.env := by rfl) (hplain : (backTo cpos (starEach es X.env)).any (·.1) = false := by rfl) :
    VE X (.Call (.Attribute o name apos) (e :: es) [] cpos) (mBM T g m ms) :=
  (pe_bm pa slot hty hm ho ha hbase hfew hline hs hplain).imp fun _ _ _ => bm_run hg
def gCount : PyData → List PyData → Option Res
  | .list ds, [.int k] => (intsD ds).map fun ns => .dat (.int (ns.count k : Nat))
  | _, _ => none
theorem mtd_count : MtD K (rCntI K) gCount := by
  intro Hk H x vs d ds res Q e hx hv h q
  unfold gCount at h
  split at h
  · obtain ⟨ns, h1, rfl⟩ := Option.map_eq_some_iff.mp h
    cases hv with
    | cons v1 v2 =>
      cases v2
      obtain ⟨a, ws, rfl, g1, g2⟩ := hx.list e
      rw [ints_dv g2 h1] at g1
      exact ⟨a, ns, _, rfl, by rw [v1.int], SqL.of g1, q _ _ (.inl ⟨rfl, .int _⟩)⟩
  · cases h
/-! ### a def of one parameter, called with a list just made, which it may change -/
def mCallN (fm : FM) (m : ME) : ME := fun env => (m env).bind fun p => match p.1 with
  | .new c => (fm [.io 0 c]).map fun q => (q.1, p.2)
  | _ => none
theorem callN_run {fm : FM} {m : ME} {Q : VK} (h : tE K (mCallN fm m) σ H Q) : tCall (spF K fm) [] E0 (tCons (tE K m) tNil) σ H Q := by
  obtain ⟨B, env, Hk, res, env', R, hm, k⟩ := h
  obtain ⟨⟨r0, e1⟩, h1, hm⟩ := Option.bind_eq_some_iff.mp hm
  cases r0 with
  | dat d => cases hm
  | slt d => cases hm
  | pv d => cases hm
  | new c =>
    obtain ⟨⟨r, outs⟩, h3, hm⟩ := Option.map_eq_some_iff.mp hm
    cases hm
    refine ⟨B, env, Hk, .new c, e1, R, h1, fun v Hk1 H1 R1 s1 o1 => ?_⟩
    obtain ⟨a, rfl, q1, q2, q3, q5, q4⟩ := o1
    show spF K fm [V.ref a] H1 Q E0
    refine ⟨Hk1, [.io 0 c], r, outs, R1.ex, ⟨rfl, fun i s v hi hv => ?_, fun i l c' hi => ?_, fun i j l l' c1 c2 b hi hj _ _ => ?_⟩, h3, fun v Hk2 H2 p => ?_⟩
    · match i, hi, hv with
      | 0, hi, hv =>
        cases hi
        cases hv
        exact ⟨a, rfl, q1, q3⟩
    · match i, hi with
      | 0, hi =>
        cases hi
        rfl
    · match i, j, hi, hj with
      | 0, 0, hi, hj => rfl
    obtain ⟨c', g1, g2, g3⟩ := p.io 0 a rfl
    obtain ⟨o, ho⟩ := q3.there
    obtain ⟨o', ho'⟩ := g3.there
    have hk : ∀ b, b ≠ a → ∀ i, ioA [Slot.io 0 c] [V.ref a] i ≠ some b := fun b hb i z => by
      match i, z with
      | 0, z =>
        cases z
        exact hb rfl
    have eqH : H2 = upd (upd H2 a o) a o' := by
      funext b
      by_cases e : b = a
      · rw [e, upd_same, ho']
      · rw [upd_ne e, upd_ne e]
    have sH : Same H1 (upd H2 a o) := fun b x e => by
      by_cases z : b = a
      · rw [z] at e ⊢
        rw [ho] at e
        rw [upd_same]
        exact e
      · rw [upd_ne z]
        exact p.kp b x e (hk b z)
    have R2 : Rel K B e1 σ ⟨Hk2, Hk1.P⟩ (upd H2 a o) := R1.grow (Hk' := ⟨Hk2, Hk1.P⟩) p.kn (fun b x e => by
      have e : Hk2 b = some x := e
      have z : b ≠ a := fun z => by rw [z, g2] at e; cases e
      rw [upd_ne z]
      exact p.ex b x e) sH p.fr
    have hx : ∀ x, o ≠ .own x := fun x z => by
      cases c with
      | lst ds => obtain ⟨vs, y1, _⟩ := q3; have y2 := ho.symm.trans y1; rw [z] at y2; cases y2
      | dct ds => obtain ⟨vs, y1, _⟩ := q3; have y2 := ho.symm.trans y1; rw [z] at y2; cases y2
    have R3 := R2.other (u := o') g2 q2 q5 (fun x z => hx x (Option.some.inj ((show upd H2 a o a = some o from upd_same).symm.trans z))) q4
    rw [← eqH] at R3
    refine k v _ H2 R3 (s1.trans ⟨p.kn, fun _ _ z => z⟩) ?_
    have hres := p.res
    cases r with
    | dat d => exact hres
    | slt i => cases hres
    | pv i => cases hres
    | new c2 =>
      obtain ⟨b, rfl, w1, w2, w3⟩ := hres
      exact ⟨b, rfl, w1, R1.fresh0 w2, w3, R1.pfree w2, fun j s hj hm => R1.mutNe w2 hj hm⟩
theorem ve_callN {k : Nat} {f : Addr} {fd : FuncData} {ps : List Str} {fm : FM} {x : Str} {p pos : Pos} {e : Expr} {m : ME} (F : FnOk X.prog X.w X.K X.mg X.base CX0 k f fd ps (spF X.K fm)) (hr : Room k X.A) (hm : X.mg x = some (.ref f)) (hk : PySem.W.keepIn X.K (.ref f) = true) (hb : Binds X.K fd ps [])
    (ha : VE X e m) (hg : Gl X x := by rfl) (hdb : (x == ("__debug__" : Str)) = false := by decide) (he : starEach [e] X.env = (false, eval e X.env) :: starEach [] X.env := by rfl) (hpl : (backTo pos (starEach [] X.env)).any (·.1) = false := by rfl) :
    VE X (.Call (.Name x p) [e] [] pos) (mCallN fm m) := (pe_call F hr hg hm hk hb .nil pass0 (pa_cons ha pa_nil he) hdb he hpl).imp fun _ _ _ => callN_run
/-! ### a def that calls itself -/
theorem ok_no {P : Program} {w : World} {mg : Str → Option Value} {base : Heap} {k : Nat} {f : Addr} {fd : FuncData} {ps : List Str} : FnOk P w K mg base CX0 k f fd ps (spF K fun _ => none) :=
  ⟨fun vs H Q E ⟨_, _, _, _, _, _, z, _⟩ => (nomatch z), fun A outer s H args us vs Q E _ _ _ _ ⟨_, _, _, _, _, _, z, _⟩ => nomatch z⟩
end
end Cm
namespace Cm
open PySem L2
section
variable {X : Cx} {K : PySem.W.Frag} {B : Fb} {env : Sl} {σ : St} {Hk H : Hp}
/-! ### sorted, of whole numbers -/
def isort (l : List Int) : List Int := l.mergeSort fun a b => decide (a ≤ b)
theorem isort_perm (l : List Int) : (isort l).Perm l := List.mergeSort_perm l _
theorem isort_up (l : List Int) : (isort l).Pairwise (· ≤ ·) := by
  have h := List.pairwise_mergeSort (le := fun (a b : Int) => decide (a ≤ b)) (fun a b c h1 h2 => by
    rw [decide_eq_true_eq] at *
    omega) (fun a b => by
    rw [Bool.or_eq_true, decide_eq_true_eq, decide_eq_true_eq]
    omega) l
  exact h.imp fun h => of_decide_eq_true h
theorem sorted_uniq : ∀ {l l' : List Int}, l.Perm l' → l.Pairwise (· ≤ ·) → l'.Pairwise (· ≤ ·) → l = l'
  | [], l', h, _, _ => (List.nil_perm.mp h).symm
  | x :: l, [], h, _, _ => absurd h.length_eq (by simp)
  | x :: l, y :: l', h, h1, h2 => by
    rw [List.pairwise_cons] at h1 h2
    have e : x = y := by
      have a1 : x ∈ y :: l' := h.mem_iff.mp List.mem_cons_self
      have a2 : y ∈ x :: l := h.mem_iff.mpr List.mem_cons_self
      rcases List.mem_cons.mp a1 with a1 | a1
      · exact a1
      · rcases List.mem_cons.mp a2 with a2 | a2
        · exact a2.symm
        · have b1 := h1.1 y a2
          have b2 := h2.1 x a1
          omega
    subst e
    rw [sorted_uniq (List.Perm.cons_inv h) h1.2 h2.2]
def gSorted : List PyData → Option Res
  | [.list ds] => (intsD ds).map fun ns => .new (.lst ((isort ns).map .int))
  | _ => none
theorem cd_sorted : CallD K (rSortedI K) gSorted := by
  intro Hk H vs ds res Q e hv h q
  unfold gSorted at h
  split at h
  · obtain ⟨ns, h1, rfl⟩ := Option.map_eq_some_iff.mp h
    cases hv with
    | cons v1 v2 =>
      cases v2
      obtain ⟨a, ws, rfl, g1, g2⟩ := v1.list e
      rw [ints_dv g2 h1] at g1
      refine ⟨a, ns, rfl, SqL.of g1, fun ns' p hp hs hn => q _ _ ⟨p, ns'.map V.int, rfl, hn, rfl, ?_⟩⟩
      rw [sorted_uniq (hp.trans (isort_perm ns).symm) hs (isort_up ns)]
      exact dv_ints _
  · cases h
/-! ### xs[::-1] -/
def mRevL (m : ME) : ME := fun env => (m env).bind fun p => (rdv p.2 (stab p.1)).bind fun d => match d with
  | .list ds => some (.new (.lst ds.reverse), p.2)
  | _ => none
theorem revL_run {m : ME} {Q : VK} (h : tE K (mRevL m) σ H Q) : tRevL K (tE K m) σ H Q := by
  obtain ⟨B, env, Hk, res, env', R, hm, k⟩ := h
  obtain ⟨⟨x, e0⟩, h0, hm⟩ := Option.bind_eq_some_iff.mp hm
  obtain ⟨d, h3, hm⟩ := Option.bind_eq_some_iff.mp hm
  cases d with
  | list ds =>
    cases hm
    refine ⟨B, env, Hk, x, e0, R, h0, fun v Hk1 H1 R1 s1 o1 => ?_⟩
    obtain ⟨Hk1', R1', s1', o1'⟩ := R1.stab o1
    obtain ⟨a, vs, rfl, g1, g2⟩ := (R1'.view o1' h3).list R1'.ex
    refine ⟨a, vs, rfl, SqL.of g1, fun p hp => ?_⟩
    obtain ⟨Hk3, R3, s3, o3⟩ := R1'.out (r := .new (.lst ds.reverse)) (v := .ref p) ⟨p, vs.reverse, rfl, hp, rfl, g2.rev⟩
    exact k _ Hk3 _ R3 ((s1.trans s1').trans s3) o3
  | none => cases hm
  | bool b => cases hm
  | int b => cases hm
  | str b => cases hm
  | tuple b => cases hm
  | dict b => cases hm
theorem ve_rev {e : Expr} {m : ME} {k : Nat} {p1 p2 p3 pos : Pos} (he : VE X e m) : VE X (.Subscript e (.Slice none none (some (.UnaryOp .USub (.Constant (.int 1) k p1) p2)) p3) pos) (mRevL m) := (pe_revL he).imp fun _ _ _ => revL_run
/-! ### the least and the greatest of a list -/
def leastI : List Int → Option Int
  | [] => none
  | x :: xs => some (xs.foldl (fun a b => if b < a then b else a) x)
theorem least_fold : ∀ (xs : List Int) (x : Int), (xs.foldl (fun a b => if b < a then b else a) x) ∈ x :: xs ∧ ∀ y ∈ x :: xs, (xs.foldl (fun a b => if b < a then b else a) x) ≤ y
  | [], x => ⟨List.mem_cons_self, fun y hy => by rw [List.mem_singleton] at hy; rw [hy]; exact Int.le_refl _⟩
  | b :: xs, x => by
    rw [List.foldl_cons]
    obtain ⟨h1, h2⟩ := least_fold xs (if b < x then b else x)
    have hx : (if b < x then b else x) ≤ x ∧ (if b < x then b else x) ≤ b := by split <;> omega
    have h3 := h2 _ List.mem_cons_self
    refine ⟨?_, fun y hy => ?_⟩
    · rcases List.mem_cons.mp h1 with h1 | h1
      · rw [h1]
        split
        · exact List.mem_cons_of_mem _ List.mem_cons_self
        · exact List.mem_cons_self
      · exact List.mem_cons_of_mem _ (List.mem_cons_of_mem _ h1)
    · rcases List.mem_cons.mp hy with rfl | hy
      · omega
      · rcases List.mem_cons.mp hy with rfl | hy
        · omega
        · exact h2 y (List.mem_cons_of_mem _ hy)
theorem least_spec {ns : List Int} {m : Int} (h : leastI ns = some m) : m ∈ ns ∧ ∀ y ∈ ns, m ≤ y := by
  cases ns with
  | nil => cases h
  | cons x xs =>
    cases h
    exact least_fold xs x
def gMinL : List PyData → Option Res
  | [.list ds] => (intsD ds).bind fun ns => (leastI ns).map fun m => .dat (.int m)
  | _ => none
theorem cd_minL : CallD K (rMin K) gMinL := by
  intro Hk H vs ds res Q e hv h q
  unfold gMinL at h
  split at h
  · obtain ⟨ns, h1, h⟩ := Option.bind_eq_some_iff.mp h
    obtain ⟨m, h2, rfl⟩ := Option.map_eq_some_iff.mp h
    obtain ⟨m1, m2⟩ := least_spec h2
    cases hv with
    | cons v1 v2 =>
      cases v2
      obtain ⟨a, ws, rfl, g1, g2⟩ := v1.list e
      rw [ints_dv g2 h1] at g1
      refine ⟨a, ns, rfl, SqL.of g1, List.length_pos_of_mem m1, fun m' hm hy => ?_⟩
      have e1 := hy m m1
      have e2 := m2 m' hm
      rw [show m' = m by omega]
      exact q _ _ (.inl ⟨rfl, .int _⟩)
  · cases h
/-! ### x in a list or tuple of flat things -/
def vOf : PyData → V
  | .none => .non
  | .bool b => .bl b
  | .int i => .int i
  | .str s => .str s
  | _ => .non
theorem flat_vOf {d : PyData} {v : V} (h : flatD d = true) (q : Dv K Hk v d) : v = vOf d ∧ flatV v = true := by
  cases q with
  | non => exact ⟨rfl, rfl⟩
  | bl b => exact ⟨rfl, rfl⟩
  | int i => exact ⟨rfl, rfl⟩
  | str s => exact ⟨rfl, rfl⟩
  | _ => cases h
theorem flat_vOfs : ∀ {ds : List PyData} {vs : List V}, ds.all flatD = true → DvAll K Hk vs ds → vs = ds.map vOf ∧ vs.all flatV = true
  | [], _, _, .nil => ⟨rfl, rfl⟩
  | d :: ds, _, h, .cons h1 h2 => by
    rw [List.all_cons, Bool.and_eq_true] at h
    obtain ⟨e1, e2⟩ := flat_vOf h.1 h1
    obtain ⟨e3, e4⟩ := flat_vOfs h.2 h2
    exact ⟨by rw [e1, e3]; rfl, by rw [List.all_cons, e2, e4]; rfl⟩
def inD (x : PyData) (ds : List PyData) : Bool := inV (vOf x) (ds.map vOf)
def gIn (neg : Bool) (x y : PyData) : Option Res := if flatD x = true then (match y with
  | .list ds => if ds.all flatD = true then some (.dat (.bool (neg ^^ inD x ds))) else none
  | .tuple ds => if ds.all flatD = true then some (.dat (.bool (neg ^^ inD x ds))) else none
  | _ => none) else none
theorem View.flat {d : PyData} {v : V} (h : flatD d = true) (q : View K Hk H v d) : v = vOf d ∧ flatV v = true := by
  rcases q with q | ⟨a, c, rfl, rfl, _⟩
  · exact flat_vOf h q
  · cases c <;> cases h
theorem od_in {neg : Bool} : OpD K (rIn K neg) (gIn neg) := by
  intro Hk H x y dx dy res Q e hx hy h q
  unfold gIn at h
  by_cases hf : flatD dx = true
  · rw [if_pos hf] at h
    obtain ⟨e1, e2⟩ := View.flat hf hx
    split at h
    · rename_i ds
      by_cases ha : ds.all flatD = true
      · rw [if_pos ha] at h
        cases h
        obtain ⟨a, ws, rfl, g1, g2⟩ := hy.list e
        obtain ⟨e3, e4⟩ := flat_vOfs ha g2
        refine ⟨a, ws, rfl, .inl (SqL.of g1), e2, e4, ?_⟩
        rw [e1, e3, show (if neg then !inV (vOf dx) (ds.map vOf) else inV (vOf dx) (ds.map vOf)) = (neg ^^ inD dx ds) by unfold inD; cases neg <;> simp]
        exact q _ _ (.inl ⟨rfl, .bl _⟩)
      · rw [if_neg ha] at h
        cases h
    · rename_i ds
      by_cases ha : ds.all flatD = true
      · rw [if_pos ha] at h
        cases h
        obtain ⟨a, ws, rfl, g1, g2⟩ := hy.tup e
        obtain ⟨e3, e4⟩ := flat_vOfs ha g2
        refine ⟨a, ws, rfl, .inr g1, e2, e4, ?_⟩
        rw [e1, e3, show (if neg then !inV (vOf dx) (ds.map vOf) else inV (vOf dx) (ds.map vOf)) = (neg ^^ inD dx ds) by unfold inD; cases neg <;> simp]
        exact q _ _ (.inl ⟨rfl, .bl _⟩)
      · rw [if_neg ha] at h
        cases h
    · cases h
  · rw [if_neg hf] at h
    cases h
theorem inD_ints (x : Int) (ns : List Int) : inD (.int x) (ns.map .int) = decide (x ∈ ns) := by
  unfold inD inV
  induction ns with
  | nil => rfl
  | cons n ns ih =>
    rw [List.map_cons, List.map_cons, List.any_cons, ih]
    show ((n == x) || decide (x ∈ ns)) = _
    by_cases h : n = x
    · simp [h]
    · have h2 : ¬ x = n := fun z => h z.symm
      simp [h, h2]
end
end Cm
namespace Cm
open PySem PySem.Spec PyProof.Rows L2
section
variable {X : Cx} {K : PySem.W.Frag} {B : Fb} {env : Sl} {σ : L2.St} {Hk H : Hp}
/-! ### list(range(..)) -/
def mLR1 (m : ME) : ME := fun env => (m env).bind fun p => (rdv p.2 (stab p.1)).bind fun d => match d with
  | .int n => if 0 ≤ n ∧ n ≤ 100000 then some (.new (.lst ((List.range n.toNat).map fun i => .int (i : Nat))), p.2) else none
  | _ => none
theorem dv_rg {n : Int} : DvAll K Hk (rgV 0 n) ((List.range n.toNat).map fun i => .int (i : Nat)) := by
  have h := dv_ints (K := K) (Hk := Hk) ((List.range n.toNat).map fun i => ((i : Nat) : Int))
  rw [List.map_map, List.map_map] at h
  unfold rgV
  rw [Int.sub_zero]
  have e : (fun i : Nat => V.int (0 + (i : Int))) = V.int ∘ fun i : Nat => (i : Int) := by
    funext i
    show V.int (0 + (i : Int)) = V.int (i : Int)
    rw [Int.zero_add]
  rw [e]
  exact h
theorem lr1_run {m : ME} {Q : VK} (h : tE K (mLR1 m) σ H Q) : tLstRg (tRg1 (tE K m)) σ H Q := by
  obtain ⟨B, env, Hk, res, env', R, hm, k⟩ := h
  obtain ⟨⟨x, e0⟩, h0, hm⟩ := Option.bind_eq_some_iff.mp hm
  obtain ⟨d, h3, hm⟩ := Option.bind_eq_some_iff.mp hm
  cases d with
  | int n =>
    by_cases hn : 0 ≤ n ∧ n ≤ 100000
    · have hm : (if 0 ≤ n ∧ n ≤ 100000 then some (Res.new (.lst ((List.range n.toNat).map fun i => PyData.int (i : Nat))), e0) else none) = some (res, env') := hm
      rw [if_pos hn] at hm
      cases hm
      refine ⟨B, env, Hk, x, _, R, h0, fun v Hk1 H1 R1 s1 o1 => ?_⟩
      obtain ⟨Hk1', R1', s1', o1'⟩ := R1.stab o1
      refine ⟨n, (R1'.view o1' h3).int, RgOk.of_le (by omega) (by omega) (by omega) (by omega), fun p hp => ?_⟩
      obtain ⟨Hk3, R3, s3, o3⟩ := R1'.out (r := .new (.lst ((List.range n.toNat).map fun i => .int (i : Nat)))) (v := .ref p) ⟨p, rgV 0 n, rfl, hp, rfl, dv_rg⟩
      exact k _ Hk3 _ R3 ((s1.trans s1').trans s3) o3
    · have hm : (if 0 ≤ n ∧ n ≤ 100000 then some (Res.new (.lst ((List.range n.toNat).map fun i => PyData.int (i : Nat))), e0) else none) = some (res, env') := hm
      rw [if_neg hn] at hm
      cases hm
  | none => cases hm
  | bool b => cases hm
  | list b => cases hm
  | str b => cases hm
  | tuple b => cases hm
  | dict b => cases hm
theorem ve_listR1 {a : Expr} {m : ME} {p pos p2 pos2 : Pos} (hm : X.mg "range" = none) (hm2 : X.mg "list" = none) (ha : VE X a m) (hc : X.calm = true := by rfl) (hg : Gl X "range" := by rfl) (hg2 : Gl X "list" := by rfl) (na : starEach [a] X.env = (false, eval a X.env) :: starEach [] X.env := by rfl)
    (na2 : starEach [.Call (.Name "range" p) [a] [] pos] X.env = (false, eval (.Call (.Name "range" p) [a] [] pos) X.env) :: starEach [] X.env := by rfl) : VE X (.Call (.Name "list" p2) [.Call (.Name "range" p) [a] [] pos] [] pos2) (mLR1 m) :=
  (pe_listRg hc hg2 hm2 (prg_1 hg hm ha na) na2).imp fun _ _ _ => lr1_run
/-! with steps -/
def tLR3 (ta : TA) : TE := fun σ H Q => ta σ H fun vs H1 => ∃ (i j c : Int) (n : Nat), vs = [.int i, .int j, .int c] ∧ RgC i j c n ∧ n ≤ 100000 ∧ ∀ q, H1 q = none → Q (.ref q) (upd H1 q (.lst ((List.range n).map fun k => V.int (i + (k : Nat) * c))))
theorem vals_rgC {a c : Int} {n : Nat} {acc : Array Value} (h : ItemsOf (fun i v => ∃ t, v = .int (a + i * c) t) acc n) : Vals ((List.range n).map fun k => V.int (a + (k : Nat) * c)) acc.toList := by
  have e : acc.toList.length = n := by rw [Array.length_toList]; exact h.1
  rw [← e]
  refine vals_of_get acc.toList _ fun j u hj => ?_
  obtain ⟨t, rfl⟩ := h.2 j u (by rw [← hj, Array.getElem?_toList])
  exact ⟨t, rfl⟩
theorem pe_listR3 {a b c : Expr} {ta : TA} {p pos p2 pos2 : Pos} (hc : X.calm = true) (hg : Gl X "range") (hm : X.mg "range" = none) (hg2 : Gl X "list") (hm2 : X.mg "list" = none) (ha : PA X [a, b, c] ta)
    (hs : starEach [a, b, c] X.env = (false, eval a X.env) :: starEach [b, c] X.env := by rfl) (hpl : (backTo pos (starEach [b, c] X.env)).any (·.1) = false := by rfl)
    (na2 : starEach [.Call (.Name "range" p) [a, b, c] [] pos] X.env = (false, eval (.Call (.Name "range" p) [a, b, c] [] pos) X.env) :: starEach [] X.env := by rfl) :
    PE X (.Call (.Name "list" p2) [.Call (.Name "range" p) [a, b, c] [] pos] [] pos2) (tLR3 ta) := by
  refine ⟨fun pins s σ H Q I h => ?_⟩
  have hR : wpAny (model X.prog X.w) X.A (eval (.Call (.Name "range" p) [a, b, c] [] pos) X.env) (fun x s' => ∃ r i j k t u v n H', x = .ref r ∧ IsRange s'.heap r i j k t u v ∧ Inv X pins σ H' s' ∧ RgC i j k n ∧ n ≤ 100000 ∧ ∀ q, H' q = none → Q (.ref q) (upd H' q (.lst ((List.range n).map fun l => V.int (i + (l : Nat) * k))))) X.xe s := by
    refine Call_ (ld_blt I hg hm boot_range (PyProof.Rows.callWith_type1 (thn (ha.run pos pins s σ H _ I h) fun us s1 ⟨vs, H1, I1, r1, q1⟩ => ?_) hs hpl))
    obtain ⟨i, j, k, n, e, hr, hn, q⟩ := q1
    subst e
    cases r1 with
    | cons r rr =>
      cases rr with
      | cons r' rr =>
        cases rr with
        | cons r'' rr =>
          cases rr
          obtain ⟨t, rfl⟩ := r
          obtain ⟨t', rfl⟩ := r'
          obtain ⟨t'', rfl⟩ := r''
          exact call_range_3 hr.1 ⟨_, i, j, k, _, _, _, n, H1, rfl, IsRange.new _ _ _ _ _ _ _, I1.kept (t' := s1.toks) (fun b o e => Heap.get?_push_of_some _ e), hr, hn, q⟩ (.inl (PyProof.noPylong_small hr.2.1))
  refine Call_ (ld_blt I hg2 hm2 boot_list (PyProof.Rows.callWith_type1 (args_cons (thn hR fun x s1 ⟨r, i, j, k, t, u, v, n, H1, ex, hr, I1, ⟨c0, c1, c2, c3⟩, hn, q⟩ => args_nil ?_) na2) na2))
  subst ex
  refine call_list_range (n := n) (I1.ok.hd hc) hr c2 c3 (by omega) fun h' tk acc c' hk e' hi => ?_
  refine ⟨.ref s1.heap.objs.size, upd H1 s1.heap.objs.size (.lst ((List.range n).map fun l => V.int (i + (l : Nat) * k))), I1.laid hk (Nat.le_refl _) (show ObjOk X.prog X.w _ _ _ (.lst ((List.range n).map fun l => V.int (i + (l : Nat) * k))) from ⟨?_, acc.toList, c', vals_rgC hi, ?_⟩), rfl, q _ (I1.hok.fresh (Nat.le_refl _))⟩
  · rw [List.length_map, List.length_range, sizeLine_eq]; omega
  · rw [Array.toArray_toList]; exact e'
def mLR3 (ms : MA) : ME := fun env => (ms env).bind fun p => (rdAll p.2 p.1).bind fun ds => match ds with
  | [.int i, .int j, .int c] => if ((c ≠ 0 ∧ c.natAbs < 1073741824) ∧ Builtin.Range.small i j c = true) ∧ (Builtin.Range.rangeSize i j c).toNat ≤ 100000 then some (.new (.lst ((List.range (Builtin.Range.rangeSize i j c).toNat).map fun k => .int (i + (k : Nat) * c))), p.2) else none
  | _ => none
theorem lr3_run {ms : MA} {Q : VK} (h : tE K (mLR3 ms) σ H Q) : tLR3 (tA K ms) σ H Q := by
  obtain ⟨B, env, Hk, ds, env', R0, hm, k⟩ := h
  obtain ⟨⟨rs, e1⟩, h1, hm⟩ := Option.bind_eq_some_iff.mp hm
  obtain ⟨es, h2, hm⟩ := Option.bind_eq_some_iff.mp hm
  refine ⟨B, env, Hk, rs, e1, R0, h1, fun vs Hk1 H1 R1 s1 o1 => ?_⟩
  have hv := R1.views o1 h2
  split at hm
  · rename_i i j c
    split at hm
    · rename_i hz
      cases hm
      cases hv with
      | cons v1 v2 =>
        cases v2 with
        | cons v2 v3 =>
          cases v3 with
          | cons v3 v4 =>
            cases v4
            rw [v1.int, v2.int, v3.int]
            refine ⟨i, j, c, (Builtin.Range.rangeSize i j c).toNat, rfl, ⟨hz.1.1.1, hz.1.1.2, hz.1.2, (Int.toNat_of_nonneg (rangeSize_nn i j c)).symm⟩, hz.2, fun p hp => ?_⟩
            obtain ⟨Hk3, R3, s3, o3⟩ := R1.out (r := .new (.lst ((List.range (Builtin.Range.rangeSize i j c).toNat).map fun k => .int (i + (k : Nat) * c)))) (v := .ref p) ⟨p, (List.range (Builtin.Range.rangeSize i j c).toNat).map fun k => V.int (i + (k : Nat) * c), rfl, hp, rfl, by
              have h := dv_ints (K := K) (Hk := Hk1) ((List.range (Builtin.Range.rangeSize i j c).toNat).map fun k => i + (k : Nat) * c)
              rw [List.map_map, List.map_map] at h
              exact h⟩
            exact k _ Hk3 _ R3 (s1.trans s3) o3
    · cases hm
  · cases hm
theorem ve_listR3 {a b c : Expr} {ms : MA} {p pos p2 pos2 : Pos} (hm : X.mg "range" = none) (hm2 : X.mg "list" = none) (ha : VA X [a, b, c] ms) (hc : X.calm = true := by rfl) (hg : Gl X "range" := by rfl) (hg2 : Gl X "list" := by rfl)
    (hs : starEach [a, b, c] X.env = (false, eval a X.env) :: starEach [b, c] X.env := by rfl) (hpl : (backTo pos (starEach [b, c] X.env)).any (·.1) = false := by rfl)
    (na2 : starEach [.Call (.Name "range" p) [a, b, c] [] pos] X.env = (false, eval (.Call (.Name "range" p) [a, b, c] [] pos) X.env) :: starEach [] X.env := by rfl) : VE X (.Call (.Name "list" p2) [.Call (.Name "range" p) [a, b, c] [] pos] [] pos2) (mLR3 ms) :=
  (pe_listR3 hc hg hm hg2 hm2 ha hs hpl na2).imp fun _ _ _ => lr3_run
end
end Cm
namespace Cm
open PySem L2
def spLaw (K : PySem.W.Frag) : Sp := fun vs H Q _ => ∃ (a : Addr) (ns : List Int), vs = [.ref a] ∧ SqL K H a (ns.map V.int) ∧ ns.length ≤ 63 ∧ ∀ H', Q (.bl true) H'
theorem law_imp {K : PySem.W.Frag} {fm : FM} (h : ∀ ns : List Int, ns.length ≤ 63 → ∃ outs, fm [.scr ns] = some (.dat (.bool true), outs)) (vs : List V) (H : Hp) (Q : VK) (E : XK) (q : spLaw K vs H Q E) : spF K fm vs H Q E := by
  obtain ⟨a, ns, rfl, hS, hl, k⟩ := q
  obtain ⟨outs, e⟩ := h ns hl
  refine ⟨H, [.scr ns], _, outs, .refl _, ⟨rfl, fun i s v e1 e2 => ?_, fun i k c e1 => ?_, fun i j k l c c' a e1 => ?_⟩, e, fun v Hk' H' p => ?_⟩
  · cases i with
    | zero =>
      simp at e1 e2
      subst e1 e2
      exact ⟨a, rfl, hS⟩
    | succ i => simp at e1
  · cases i with
    | zero => simp at e1
    | succ i => simp at e1
  · cases i with
    | zero => simp at e1
    | succ i => simp at e1
  · have hr : Dv K Hk' v (.bool true) := p.res
    cases hr
    exact k H'
end Cm
namespace Cm
open PySem L2
/-! ### names that are let go -/
theorem Rel.wipe1 {K : PySem.W.Frag} {B : Fb} {env : Sl} {σ : St} {Hk : Kn} {H : Hp} (R : Rel K B env σ Hk H) (i : Nat) : Rel K B (env.set i .no) σ Hk H := by
  cases h : σ[i]? with
  | none =>
    have h1 := List.getElem?_eq_none_iff.mp h
    rw [List.set_eq_of_length_le (by rw [R.len]; exact h1)]
    exact R
  | some o =>
    have h2 : σ.set i o = σ := by
      apply List.ext_getElem?
      intro j
      by_cases e : i = j
      · subst e
        rw [List.getElem?_set_self (List.getElem?_eq_some_iff.mp h).1, h]
      · rw [List.getElem?_set_ne e]
    have R2 := R.setNo (i := i) (o := o)
    rw [h2] at R2
    exact R2
theorem Rel.wipe0 {K : PySem.W.Frag} {B : Fb} {env : Sl} {σ : St} {Hk : Kn} {H : Hp} (R : Rel K B env σ Hk H) : ∀ vs : List Nat, Rel K B (wipeS env vs) σ Hk H
  | [] => R
  | v :: vs => (Rel.wipe0 R vs).wipe1 v
def aft (ws : List Nat) : Fl × Sl → Fl × Sl
  | (.rt r, e) => (.rt r, e)
  | (f, e) => (f, wipeS e ws)
/-- wiped behind -/
def mAft (ws : List Nat) (m : MS) : MS := fun env => (m env).map (aft ws)
/-- wiped ahead -/
def mBef (ws : List Nat) (m : MS) : MS := fun env => m (wipeS env ws)
def retR (ws : List Nat) : Res × Sl → Option Res
  | (.dat d, _) => some (.dat d)
  | (.new c, _) => some (.new c)
  | (.pv p, _) => some (.pv p)
  | (.slt i, e) => match e[i]? with
    | some (.val d) => some (.dat d)
    | some (.own c) => if ws.contains i = true then some (.new c) else none
    | _ => none
/-- return, all else wiped -/
def mRetW (ws : List Nat) (m : ME) : MS := fun env => (m env).bind fun p => (retR ws p).map fun r => (.rt r, wipeS p.2 ws)
section
variable {X : Cx} {K : PySem.W.Frag} {m n : MS} {me : ME} {ws : List Nat} {st : Stmt} {ss : List Stmt} {e : Expr} {pos : Pos}
theorem aft_run {W : WX} {D : Ends} {σ : St} {H : Hp} (h : tS K W (mAft ws m) D σ H) : tS K W m D σ H := by
  obtain ⟨B, env, Hk, f, env', R, hm, k⟩ := h
  obtain ⟨⟨f1, e1⟩, h1, hm⟩ := Option.map_eq_some_iff.mp hm
  refine ⟨B, env, Hk, f1, e1, R, h1, fun σ1 Hk1 H1 R1 s1 => ?_⟩
  cases f1 with
  | nx => cases hm; exact k σ1 Hk1 H1 (R1.wipe0 ws) s1
  | bk => cases hm; exact k σ1 Hk1 H1 (R1.wipe0 ws) s1
  | ct => cases hm; exact k σ1 Hk1 H1 (R1.wipe0 ws) s1
  | rt r => cases hm; exact k σ1 Hk1 H1 R1 s1
  | ex C fs => cases hm; exact k σ1 Hk1 H1 (R1.wipe0 ws) s1
theorem bef_run {W : WX} {D : Ends} {σ : St} {H : Hp} (h : tS K W (mBef ws m) D σ H) : tS K W m D σ H := by
  obtain ⟨B, env, Hk, f, env', R, hm, k⟩ := h
  exact ⟨B, wipeS env ws, Hk, f, env', R.wipe0 ws, hm, k⟩
theorem vs_aft (h : VSs X ss m) : VSs X ss (mAft ws m) := h.imp fun _ _ _ _ => aft_run
theorem vs_aft1 (h : VS X st m) : VS X st (mAft ws m) := h.imp fun _ _ _ _ => aft_run
theorem vs_bef (h : VS X st m) : VS X st (mBef ws m) := h.imp fun _ _ _ _ => bef_run
theorem wipeS_get {env : Sl} {i : Nat} {s : Slot} : ∀ {vs : List Nat}, (wipeS env vs)[i]? = some s → s = .no ∨ (i ∉ vs ∧ env[i]? = some s)
  | [], h => .inr ⟨by simp, h⟩
  | v :: vs, h => by
    rcases set_get (show ((wipeS env vs).set v .no)[i]? = some s from h) with ⟨_, z⟩ | ⟨ne, z⟩
    · exact .inl z
    · rcases wipeS_get z with q | ⟨q1, q2⟩
      · exact .inl q
      · refine .inr ⟨?_, q2⟩
        intro hm
        rcases List.mem_cons.mp hm with q | q
        · exact ne q
        · exact q1 q
theorem retW_run {W : WX} {D : Ends} {σ : St} {H : Hp} (h : tS K W (mRetW ws me) D σ H) : tRet (tE K me) D σ H := by
  obtain ⟨B, env, Hk, f, env', R, hm, k⟩ := h
  obtain ⟨⟨r1, e1⟩, h1, hm⟩ := Option.bind_eq_some_iff.mp hm
  obtain ⟨r2, h2, hm⟩ := Option.map_eq_some_iff.mp hm
  cases hm
  refine ⟨B, env, Hk, r1, e1, R, h1, fun v Hk1 H1 R1 s1 o1 => ?_⟩
  refine k σ Hk1 H1 (R1.wipe0 ws) s1 v ?_
  cases r1 with
  | dat d =>
    cases h2
    exact o1
  | new c =>
    cases h2
    obtain ⟨a, e, q1, q2, q3, q5, q4⟩ := o1
    refine ⟨a, e, q1, q2, q3, q5, fun j s hj hm => ?_⟩
    rcases wipeS_get hj with z | ⟨_, z⟩
    · subst z; cases hm
    · exact q4 j s z hm
  | pv p =>
    cases h2
    exact o1
  | slt i =>
    have o1 : σ[i]? = some (some v) := o1
    simp only [retR] at h2
    split at h2
    · rename_i d q
      cases h2
      obtain ⟨o, g1, v', rfl, g2⟩ := R1.slot i _ q
      rw [o1] at g1
      cases g1
      exact g2
    · rename_i c q
      split at h2
      · rename_i hc
        cases h2
        obtain ⟨o, g1, a, rfl, g2, g3, g4⟩ := R1.slot i _ q
        rw [o1] at g1
        cases g1
        refine ⟨a, rfl, g2, g3, g4, fun n => R1.psep i _ a n q trivial o1, fun j s hj hm hs => ?_⟩
        rcases wipeS_get hj with z | ⟨z1, z⟩
        · subst z; cases hm
        · have := R1.sep j i s _ a z q hm trivial hs o1
          subst this
          exact z1 (by simpa using hc)
      · cases h2
    · cases h2
theorem vs_retW (he : VE X e me) : VS X (.Return (some e) pos) (mRetW ws me) := fun W _ => (ps_ret he).imp fun _ _ _ => retW_run
end
end Cm
namespace Cm
open PySem L2
/-! ### value functions run beside plain functions: one step a rule -/
def bnd {α β γ : Type} (x : Option (α × β)) (K : α → β → Option γ) : Option γ := x.bind fun p => K p.1 p.2
section
variable {β γ δ : Type} {env e e1 e2 : Sl} {R : Option β} {i j : Nat} {d dx dy : PyData} {ds es : List PyData} {m ma mb mc : ME} {ms : MA} {t u : MT} {r r1 r2 : Res} {rs : List Res}
/-! the plain side -/
theorem c_cal {α τ : Type} {X : Option α} {Y : Option τ} {out : τ → α} {K : α → Option β} {k : τ → Option γ} {h : γ → Option β} (q : X = Y.map out) (p : ∀ z, K (out z) = (k z).bind h) : X.bind K = (Y.bind k).bind h := by
  subst q
  cases Y with
  | none => rfl
  | some z => exact p z
theorem c_pur {α : Type} {X : Option α} {v : α} {K : α → Option β} (q : X = some v) (p : K v = R) : X.bind K = R := by
  subst q
  exact p
theorem c_cal2 {α α' τ : Type} {X : Option (α × α')} {Y : Option τ} {out : τ → α × α'} {K : α → α' → Option β} {k : τ → Option γ} {h : γ → Option β} (q : X = Y.map out) (p : ∀ z, K (out z).1 (out z).2 = (k z).bind h) : bnd X K = (Y.bind k).bind h := c_cal q p
theorem c_pur2 {α α' : Type} {X : Option (α × α')} {v : α} {v' : α'} {K : α → α' → Option β} (q : X = some (v, v')) (p : K v v' = R) : bnd X K = R := c_pur q p
theorem c_let {τ : Type} {L : Option β} {v : τ} {k : τ → Option γ} {h : γ → Option β} (p : L = (k v).bind h) : L = ((some v).bind k).bind h := p
theorem c_end {τ : Type} {L : Option β} {v : τ} {h : τ → Option β} (p : L = h v) : L = (some v).bind h := p
theorem c_ite {α α' : Type} {c : Bool} {a b : Option (α × α')} {K : α → α' → Option β} {A B : Option γ} {h : γ → Option β} (p : bnd a K = A.bind h) (q : bnd b K = B.bind h) : bnd (if c = true then a else b) K = (if c = true then A else B).bind h := by
  cases c
  · exact q
  · exact p
theorem c_ifJ {α α' τ : Type} {c : Bool} {a b : Option (α × α')} {K : α → α' → Option β} {A B : Option τ} {k : τ → Option γ} {h : γ → Option β} (out : τ → α × α')
    (p : bnd a (fun x y => some (x, y)) = A.bind (fun z => some (out z))) (q : bnd b (fun x y => some (x, y)) = B.bind (fun z => some (out z))) (w : ∀ z, K (out z).1 (out z).2 = (k z).bind h) : bnd (if c = true then a else b) K = ((if c = true then A else B).bind k).bind h := by
  have f : ∀ {x : Option (α × α')} {Z : Option τ}, bnd x (fun x y => some (x, y)) = Z.bind (fun z => some (out z)) → bnd x K = (Z.bind k).bind h := fun {x Z} g => by
    have : x = Z.map out := by
      cases x with
      | none =>
        cases Z with
        | none => rfl
        | some z => cases g
      | some p =>
        cases Z with
        | none => cases g
        | some z => exact g
    subst this
    cases Z with
    | none => rfl
    | some z => exact w z
  cases c
  · exact f q
  · exact f p
theorem c_tot {α α' : Type} {X : Option (α × α')} {v : α} {v' : α'} (h : bnd X (fun x y => some (x, y)) = some (v, v')) : X = some (v, v') := by
  cases X with
  | none => cases h
  | some p => exact h
theorem c_map {α α' τ : Type} {X : Option (α × α')} {Y : Option τ} {out : τ → α × α'} (h : bnd X (fun x y => some (x, y)) = Y.bind fun z => some (out z)) : X = Y.map out := by
  cases X with
  | none =>
    cases Y with
    | none => rfl
    | some z => cases h
  | some p =>
    cases Y with
    | none => cases h
    | some z => exact h
/-! names, constants -/
section
variable {K : Res → Sl → Option β}
theorem c_nameV (h : env[i]? = some (.val d)) (k : K (.dat d) env = R) : bnd (mName i env) K = R := by
  unfold mName; rw [h]; exact k
theorem c_nameO {c : Cell} (h : env[i]? = some (.own c)) (k : K (.slt i) env = R) : bnd (mName i env) K = R := by
  unfold mName; rw [h]; exact k
theorem c_nameI {n : Nat} {c : Cell} (h : env[i]? = some (.io n c)) (k : K (.slt i) env = R) : bnd (mName i env) K = R := by
  unfold mName; rw [h]; exact k
theorem c_nameS {ns : List Int} (h : env[i]? = some (.scr ns)) (k : K (.slt i) env = R) : bnd (mName i env) K = R := by
  unfold mName; rw [h]; exact k
theorem c_c (k : K (.dat d) env = R) : bnd (mC d env) K = R := k
theorem c_frz (k : bnd (m env) (fun r e => bnd (frz (r, e)) K) = R) : bnd (mFrz m env) K = R := by
  rw [← k]; unfold mFrz bnd; cases m env <;> rfl
theorem c_frzD (k : K (.dat d) e = R) : bnd (frz (.dat d, e)) K = R := k
theorem c_frzN (k : K (.dat (.list ds)) e = R) : bnd (frz (.new (.lst ds), e)) K = R := k
theorem c_frzV (h : e[i]? = some (.val d)) (k : K (.dat d) e = R) : bnd (frz (.slt i, e)) K = R := by
  simp only [frz, h]; exact k
theorem c_frzO (h : e[i]? = some (.own (.lst ds))) (hs : e.set i (.val (.list ds)) = e2) (k : K (.dat (.list ds)) e2 = R) : bnd (frz (.slt i, e)) K = R := by
  subst hs; simp only [frz, h]; exact k
/-! operators -/
def opK (g : PyData → PyData → Option Res) (r1 r2 : Res) (e : Sl) (K : Res → Sl → Option β) : Option β := (rdv e (stab r1)).bind fun dx => (rdv e (stab r2)).bind fun dy => (g dx dy).bind fun r => K r e
variable {g g' : PyData → PyData → Option Res}
theorem c_op (k : bnd (ma env) (fun r1 e1 => bnd (mb e1) fun r2 e2 => opK g r1 r2 e2 K) = R) : bnd (mOp g ma mb env) K = R := by
  rw [← k]; unfold mOp bnd opK
  cases ma env with
  | none => rfl
  | some p =>
    simp only [Option.bind_some]
    cases mb p.2 with
    | none => rfl
    | some q =>
      simp only [Option.bind_some]
      cases rdv q.2 (stab p.1) with
      | none => rfl
      | some x =>
        simp only [Option.bind_some]
        cases rdv q.2 (stab q.1) with
        | none => rfl
        | some y =>
          simp only [Option.bind_some]
          cases g x y <;> rfl
theorem c_opK (h1 : rdv e (stab r1) = some dx) (h2 : rdv e (stab r2) = some dy) (k : (g dx dy).bind (fun r => K r e) = R) : opK g r1 r2 e K = R := by
  unfold opK; rw [h1, h2]; exact k
def unK (g : PyData → Option Res) (r : Res) (e : Sl) (K : Res → Sl → Option β) : Option β := (rdv e (stab r)).bind fun dx => (g dx).bind fun r => K r e
theorem c_un {g : PyData → Option Res} (k : bnd (ma env) (fun r e => unK g r e K) = R) : bnd (mUn g ma env) K = R := by
  rw [← k]; unfold mUn bnd unK
  cases ma env with
  | none => rfl
  | some p =>
    simp only [Option.bind_some]
    cases rdv p.2 (stab p.1) with
    | none => rfl
    | some x =>
      simp only [Option.bind_some]
      cases g x <;> rfl
theorem c_unK {g : PyData → Option Res} (h1 : rdv e (stab r) = some dx) (k : (g dx).bind (fun r => K r e) = R) : unK g r e K = R := by
  unfold unK; rw [h1]; exact k
end
/-! tests -/
section
variable {K : Bool → Sl → Option β} {b c : Bool}
def testK (r : Res) (e : Sl) (K : Bool → Sl → Option β) : Option β := match r with
  | .dat (.bool b) => K b e
  | _ => none
theorem c_test (k : bnd (m env) (fun r e => testK r e K) = R) : bnd (mTest m env) K = R := by
  rw [← k]; unfold mTest bnd
  cases m env with
  | none => rfl
  | some p =>
    cases p with
    | mk r e =>
      cases r with
      | dat d => cases d <;> rfl
      | _ => rfl
theorem c_testK (k : K b e = R) : testK (.dat (.bool b)) e K = R := k
theorem c_andB (k : bnd (t env) (fun c e => bnd (if c = true then u e else some (false, e)) K) = R) : bnd (mAnd t u env) K = R := by
  rw [← k]; unfold mAnd bnd
  cases t env with
  | none => rfl
  | some p => cases p with | mk c e => cases c <;> rfl
theorem c_orB (k : bnd (t env) (fun c e => bnd (if c = true then some (true, e) else u e) K) = R) : bnd (mOr t u env) K = R := by
  rw [← k]; unfold mOr bnd
  cases t env with
  | none => rfl
  | some p => cases p with | mk c e => cases c <;> rfl
theorem c_notB (k : bnd (t env) (fun c e => K (!c) e) = R) : bnd (mNot t env) K = R := by
  rw [← k]; unfold mNot bnd
  cases t env <;> rfl
theorem c_yes (k : K true env = R) : bnd (mYes env) K = R := k
/-- both sides total -/
theorem c_andP (h1 : t env = some (b, env)) (h2 : u env = some (c, env)) (k : K (b && c) env = R) : bnd (mAnd t u env) K = R := by
  unfold mAnd; rw [h1]
  cases b
  · exact k
  · show bnd (u env) K = R
    rw [h2]; exact k
theorem c_orP (h1 : t env = some (b, env)) (h2 : u env = some (c, env)) (k : K (b || c) env = R) : bnd (mOr t u env) K = R := by
  unfold mOr; rw [h1]
  cases b
  · show bnd (u env) K = R
    rw [h2]; exact k
  · exact k
end
section
variable {K : Res → Sl → Option β} {b c : Bool}
theorem c_andVP (h1 : ma env = some (.dat (.bool b), env)) (h2 : mb env = some (.dat (.bool c), env)) (k : K (.dat (.bool (b && c))) env = R) : bnd (mAndV ma mb env) K = R := by
  unfold mAndV; rw [h1]
  cases b
  · exact k
  · show bnd (mb env) K = R
    rw [h2]; exact k
theorem c_orVP (h1 : ma env = some (.dat (.bool b), env)) (h2 : mb env = some (.dat (.bool c), env)) (k : K (.dat (.bool (b || c))) env = R) : bnd (mOrV ma mb env) K = R := by
  unfold mOrV; rw [h1]
  cases b
  · show bnd (mb env) K = R
    rw [h2]; exact k
  · exact k
def boolK (r : Res) (e : Sl) (K : Bool → Sl → Option β) : Option β := match r with
  | .dat (.bool b) => K b e
  | _ => none
theorem c_boolK {K : Bool → Sl → Option β} (k : K b e = R) : boolK (.dat (.bool b)) e K = R := k
theorem c_andV (k : bnd (ma env) (fun r e => boolK r e fun c e => bnd (if c = true then mb e else some (.dat (.bool false), e)) K) = R) : bnd (mAndV ma mb env) K = R := by
  rw [← k]; unfold mAndV bnd
  cases ma env with
  | none => rfl
  | some p =>
    cases p with
    | mk r e =>
      cases r with
      | dat d => cases d with
        | bool b => cases b <;> rfl
        | _ => rfl
      | _ => rfl
theorem c_orV (k : bnd (ma env) (fun r e => boolK r e fun c e => bnd (if c = true then some (.dat (.bool true), e) else mb e) K) = R) : bnd (mOrV ma mb env) K = R := by
  rw [← k]; unfold mOrV bnd
  cases ma env with
  | none => rfl
  | some p =>
    cases p with
    | mk r e =>
      cases r with
      | dat d => cases d with
        | bool b => cases b <;> rfl
        | _ => rfl
      | _ => rfl
theorem c_notV (k : bnd (ma env) (fun r e => boolK r e fun c e => K (.dat (.bool (!c))) e) = R) : bnd (mNotV ma env) K = R := by
  rw [← k]; unfold mNotV bnd
  cases ma env with
  | none => rfl
  | some p =>
    cases p with
    | mk r e =>
      cases r with
      | dat d => cases d <;> rfl
      | _ => rfl
theorem c_if (k : bnd (t env) (fun c e => bnd (if c = true then ma e else mb e) K) = R) : bnd (mIf t ma mb env) K = R := by
  rw [← k]; unfold mIf bnd
  cases t env with
  | none => rfl
  | some p => cases p with | mk c e => cases c <;> rfl
theorem c_ifP {τ : Type} {x y : τ} {f : τ → Res} (h1 : t env = some (b, env)) (h2 : ma env = some (f x, env)) (h3 : mb env = some (f y, env)) (k : K (f (if b = true then x else y)) env = R) : bnd (mIf t ma mb env) K = R := by
  unfold mIf; rw [h1]
  cases b
  · show bnd (mb env) K = R
    rw [h3]; exact k
  · show bnd (ma env) K = R
    rw [h2]; exact k
/-- a op b op' c, all total -/
theorem c_chainP {g g' : PyData → PyData → Option Res} {dz : PyData} (h1 : ma env = some (.dat dx, env)) (h2 : mb env = some (r2, env)) (h3 : mc env = some (.dat dz, env)) (h4 : rdv env (stab r2) = some dy) (h5 : g dx dy = some (.dat (.bool b))) (h6 : g' dy dz = some (.dat (.bool c))) (k : K (.dat (.bool (b && c))) env = R) : bnd (mChain g g' ma mb mc env) K = R := by
  rw [← k]; unfold mChain bnd
  have hx : rdv env (stab (.dat dx)) = some dx := rfl
  have hz : rdv env (stab (.dat dz)) = some dz := rfl
  simp only [h1, h2, hx, h4, h5, Option.bind_some]
  cases b
  · rfl
  · simp only [h3, Option.bind_some, h4, hz, h6, Option.map_some, Bool.true_and]
/-- .. in its two parts -/
theorem c_chain {g g' : PyData → PyData → Option Res} (k : bnd (ma env) (fun r1 e1 => bnd (mb e1) fun r2 e2 => opK g r1 r2 e2 fun r e => boolK r e fun c e => bnd (if c = true then (mc e).bind (fun t => (rdv t.2 (stab r2)).bind fun dy => (rdv t.2 (stab t.1)).bind fun dz => (g' dy dz).map fun r => (r, t.2)) else some (.dat (.bool false), e)) K) = R) : bnd (mChain g g' ma mb mc env) K = R := by
  rw [← k]; unfold mChain bnd opK
  cases ma env with
  | none => rfl
  | some p =>
    simp only [Option.bind_some]
    cases mb p.2 with
    | none => rfl
    | some q =>
      simp only [Option.bind_some]
      cases rdv q.2 (stab p.1) with
      | none => rfl
      | some x =>
        simp only [Option.bind_some]
        cases rdv q.2 (stab q.1) with
        | none => rfl
        | some y =>
          simp only [Option.bind_some]
          cases g x y with
          | none => rfl
          | some r =>
            cases r with
            | dat d => cases d with
              | bool b => cases b <;> rfl
              | _ => rfl
            | _ => rfl
/-! lists of expressions -/
variable {K' : List Res → Sl → Option β}
theorem c_nil (k : K' [] env = R) : bnd (mNil env) K' = R := k
theorem c_cons (k : bnd (m env) (fun r e => bnd (ms e) fun rs e' => K' (stab r :: rs) e') = R) : bnd (mCons m ms env) K' = R := by
  rw [← k]; unfold mCons bnd
  cases m env with
  | none => rfl
  | some p =>
    simp only [Option.bind_some]
    cases ms p.2 <;> rfl
def lstK (rs : List Res) (e : Sl) (K : Res → Sl → Option β) : Option β := (dats rs).bind fun ds => if ds.length ≤ 100000 then K (.new (.lst ds)) e else none
theorem c_lst (k : bnd (ms env) (fun rs e => lstK rs e K) = R) : bnd (mLst ms env) K = R := by
  rw [← k]; unfold mLst bnd lstK
  cases ms env with
  | none => rfl
  | some p =>
    simp only [Option.bind_some]
    cases dats p.1 with
    | none => rfl
    | some ds =>
      simp only [Option.bind_some]
      split <;> rfl
theorem c_lstK (ds : List PyData) (h : dats rs = some ds) (hl : ds.length ≤ 100000) (k : K (.new (.lst ds)) e = R) : lstK rs e K = R := by
  unfold lstK; rw [h]
  show (if ds.length ≤ 100000 then _ else _) = R
  rw [if_pos hl]; exact k
def tupK (rs : List Res) (e : Sl) (K : Res → Sl → Option β) : Option β := (dats rs).bind fun ds => if ds.length ≤ 100000 then K (.dat (.tuple ds)) e else none
theorem c_tup (k : bnd (ms env) (fun rs e => tupK rs e K) = R) : bnd (mTup ms env) K = R := by
  rw [← k]; unfold mTup bnd tupK
  cases ms env with
  | none => rfl
  | some p =>
    simp only [Option.bind_some]
    cases dats p.1 with
    | none => rfl
    | some ds =>
      simp only [Option.bind_some]
      split <;> rfl
theorem c_tupK (ds : List PyData) (h : dats rs = some ds) (hl : ds.length ≤ 100000) (k : K (.dat (.tuple ds)) e = R) : tupK rs e K = R := by
  unfold tupK; rw [h]
  show (if ds.length ≤ 100000 then _ else _) = R
  rw [if_pos hl]; exact k
def cbK (g : List PyData → Option Res) (rs : List Res) (e : Sl) (K : Res → Sl → Option β) : Option β := (rdAll e rs).bind fun ds => (g ds).bind fun r => K r e
theorem c_cb {g : List PyData → Option Res} (k : bnd (ms env) (fun rs e => cbK g rs e K) = R) : bnd (mCB g ms env) K = R := by
  rw [← k]; unfold mCB bnd cbK
  cases ms env with
  | none => rfl
  | some p =>
    simp only [Option.bind_some]
    cases rdAll p.2 p.1 with
    | none => rfl
    | some ds =>
      simp only [Option.bind_some]
      cases g ds <;> rfl
theorem c_cbK {g : List PyData → Option Res} (ds : List PyData) (h : rdAll e rs = some ds) (k : (g ds).bind (fun r => K r e) = R) : cbK g rs e K = R := by
  unfold cbK; rw [h]; exact k
def bmK (T : String) (g : PyData → List PyData → Option Res) (ms : MA) (r : Res) (e : Sl) (K : Res → Sl → Option β) : Option β := (rdv e (stab r)).bind fun d0 => if tyD T d0 = true then bnd (ms e) fun rs e' => (rdv e' (stab r)).bind fun d => (rdAll e' rs).bind fun ds => (g d ds).bind fun r => K r e' else none
theorem c_bm {T : String} {g : PyData → List PyData → Option Res} (k : bnd (m env) (fun r e => bmK T g ms r e K) = R) : bnd (mBM T g m ms env) K = R := by
  rw [← k]; unfold mBM bnd bmK
  cases m env with
  | none => rfl
  | some p =>
    simp only [Option.bind_some]
    cases rdv p.2 (stab p.1) with
    | none => rfl
    | some d0 =>
      simp only [Option.bind_some]
      split
      · unfold bnd
        cases ms p.2 with
        | none => rfl
        | some q =>
          simp only [Option.bind_some]
          cases rdv q.2 (stab p.1) with
          | none => rfl
          | some d =>
            simp only [Option.bind_some]
            cases rdAll q.2 q.1 with
            | none => rfl
            | some ds =>
              simp only [Option.bind_some]
              cases g d ds <;> rfl
      · rfl
def bmK2 (g : PyData → List PyData → Option Res) (r : Res) (rs : List Res) (e : Sl) (K : Res → Sl → Option β) : Option β := (rdv e (stab r)).bind fun d => (rdAll e rs).bind fun ds => (g d ds).bind fun r => K r e
theorem c_bmK {T : String} {g : PyData → List PyData → Option Res} (d0 : PyData) (h1 : rdv e (stab r) = some d0) (h2 : tyD T d0 = true) (k : bnd (ms e) (fun rs e' => bmK2 g r rs e' K) = R) : bmK T g ms r e K = R := by
  unfold bmK; rw [h1]
  simp only [Option.bind_some, h2, if_true]
  exact k
theorem c_bmK2 {g : PyData → List PyData → Option Res} (d : PyData) (ds : List PyData) (h1 : rdv e (stab r) = some d) (h2 : rdAll e rs = some ds) (k : (g d ds).bind (fun r => K r e) = R) : bmK2 g r rs e K = R := by
  unfold bmK2; rw [h1, h2]; exact k
end
/-! calls of defs -/
section
variable {K : Res → Sl → Option β} {fm : FM} {io : Option Nat} {ins : Sl}
def callK (fm : FM) (io : Option Nat) (rs : List Res) (e : Sl) (K : Res → Sl → Option β) : Option β := if lentOk io rs = true then (argsV true io e 0 rs).bind fun ins => (fm ins).bind fun q => if (flatR q.1 && q.2.all flatS) = true then (backV io e rs q.2).bind fun e' => K q.1 e' else none else none
theorem c_callF (k : bnd (ms env) (fun rs e => callK fm io rs e K) = R) : bnd (mCallF fm io ms env) K = R := by
  rw [← k]; unfold mCallF bnd callK
  cases ms env with
  | none => rfl
  | some p =>
    simp only [Option.bind_some]
    split
    · cases argsV true io p.2 0 p.1 with
      | none => rfl
      | some ins =>
        simp only [Option.bind_some]
        cases fm ins with
        | none => rfl
        | some q =>
          simp only [Option.bind_some]
          split
          · cases backV io p.2 p.1 q.2 <;> rfl
          · rfl
    · rfl
theorem c_callK {τ : Type} {Y : Option τ} {out : τ → Res × Sl} {bk : τ → Sl} {k : τ → Option γ} {h : γ → Option β} (h1 : lentOk io rs = true) (h2 : argsV true io e 0 rs = some ins) (q : fm ins = Y.map out) (hf : ∀ z, (flatR (out z).1 && (out z).2.all flatS) = true) (hb : ∀ z, backV io e rs (out z).2 = some (bk z)) (p : ∀ z, K (out z).1 (bk z) = (k z).bind h) : callK fm io rs e K = (Y.bind k).bind h := by
  unfold callK
  rw [if_pos h1, h2, Option.bind_some, q]
  cases Y with
  | none => rfl
  | some z =>
    show (if (flatR (out z).1 && (out z).2.all flatS) = true then (backV io e rs (out z).2).bind fun e' => K (out z).1 e' else none) = _
    rw [if_pos (hf z), hb z]
    exact p z
def callVK (fm : FM) (io : Option Nat) (rs : List Res) (e : Sl) (K : Res → Sl → Option β) : Option β := (argsV false io e 0 rs).bind fun ins => (fm ins).bind fun q => (backV io e rs q.2).bind fun e' => K q.1 e'
theorem c_callV (k : bnd (ms env) (fun rs e => callVK fm io rs e K) = R) : bnd (mCallV fm io ms env) K = R := by
  rw [← k]; unfold mCallV bnd callVK
  cases ms env with
  | none => rfl
  | some p =>
    simp only [Option.bind_some]
    cases argsV false io p.2 0 p.1 with
    | none => rfl
    | some ins =>
      simp only [Option.bind_some]
      cases fm ins with
      | none => rfl
      | some q =>
        simp only [Option.bind_some]
        cases backV io p.2 p.1 q.2 <;> rfl
theorem c_callVK {τ : Type} {Y : Option τ} {out : τ → Res × Sl} {bk : τ → Sl} {k : τ → Option γ} {h : γ → Option β} (h2 : argsV false io e 0 rs = some ins) (q : fm ins = Y.map out) (hb : ∀ z, backV io e rs (out z).2 = some (bk z)) (p : ∀ z, K (out z).1 (bk z) = (k z).bind h) : callVK fm io rs e K = (Y.bind k).bind h := by
  unfold callVK
  rw [h2, Option.bind_some, q]
  cases Y with
  | none => rfl
  | some z =>
    show ((backV io e rs (out z).2).bind fun e' => K (out z).1 e') = _
    rw [hb z]
    exact p z
def callNK (fm : FM) (r : Res) (e : Sl) (K : Res → Sl → Option β) : Option β := match r with
  | .new c => (fm [.io 0 c]).bind fun q => K q.1 e
  | _ => none
theorem c_callN (k : bnd (m env) (fun r e => callNK fm r e K) = R) : bnd (mCallN fm m env) K = R := by
  rw [← k]; unfold mCallN bnd callNK
  cases m env with
  | none => rfl
  | some p =>
    cases p with
    | mk r e =>
      cases r with
      | new c =>
        simp only [Option.bind_some]
        cases fm [.io 0 c] <;> rfl
      | _ => rfl
theorem c_callNK {τ : Type} {Y : Option τ} {out : τ → Res × Sl} {c : Cell} {k : τ → Option γ} {h : γ → Option β} (q : fm [.io 0 c] = Y.map out) (p : ∀ z, K (out z).1 e = (k z).bind h) : callNK fm (.new c) e K = (Y.bind k).bind h := by
  show (fm [.io 0 c]).bind (fun q => K q.1 e) = _
  rw [q]
  cases Y with
  | none => rfl
  | some z => exact p z
/-! mutation -/
def mutK (i : Nat) (f : List PyData → List PyData → Option (List PyData × PyData)) (rs : List Res) (e : Sl) (K : Res → Sl → Option β) : Option β := (dats rs).bind fun es => (lstAt e i).bind fun q => (f q.2 es).bind fun z => K (.dat z.2) (e.set i (q.1.put (.lst z.1)))
theorem c_mut {f : List PyData → List PyData → Option (List PyData × PyData)} {q : Slot × List PyData} (h : lstAt env i = some q) (k : bnd (ms env) (fun rs e => mutK i f rs e K) = R) : bnd (mMut i f ms env) K = R := by
  rw [← k]; unfold mMut bnd mutK
  rw [h]
  simp only [Option.bind_some]
  cases ms env with
  | none => rfl
  | some p =>
    simp only [Option.bind_some]
    cases dats p.1 with
    | none => rfl
    | some es =>
      simp only [Option.bind_some]
      cases lstAt p.2 i with
      | none => rfl
      | some q =>
        simp only [Option.bind_some]
        cases f q.2 es <;> rfl
theorem c_mutK {f : List PyData → List PyData → Option (List PyData × PyData)} {s : Slot} (es ds : List PyData) (h1 : dats rs = some es) (h2 : lstAt e i = some (s, ds)) (k : bnd (f ds es) (fun a b => K (.dat b) (e.set i (s.put (.lst a)))) = R) : mutK i f rs e K = R := by
  unfold mutK; rw [h1, h2]; exact k
end
/-! statements -/
section
variable {K : Fl → Sl → Option β} {a b : MS} {ws : List Nat}
def seqK (b : MS) (f : Fl) (e : Sl) (K : Fl → Sl → Option β) : Option β := match f with
  | .nx => bnd (b e) K
  | f => K f e
theorem c_seq (k : bnd (a env) (fun f e => seqK b f e K) = R) : bnd (mSeq a b env) K = R := by
  rw [← k]; unfold mSeq bnd seqK
  cases a env with
  | none => rfl
  | some p =>
    cases p with
    | mk f e => cases f <;> rfl
theorem c_seqN (k : bnd (b e) K = R) : seqK b .nx e K = R := k
theorem c_seqR (k : K (.rt r) e = R) : seqK b (.rt r) e K = R := k
theorem c_skip (k : K .nx env = R) : bnd (mSkip env) K = R := k
theorem c_brk (k : K .bk env = R) : bnd (mBrk env) K = R := k
theorem c_cnt (k : K .ct env = R) : bnd (mCont env) K = R := k
theorem c_drop (k : bnd (m env) (fun r e => K .nx e) = R) : bnd (mDrop m env) K = R := by
  rw [← k]; unfold mDrop bnd
  cases m env <;> rfl
def retK (ws : List Nat) (r : Res) (e : Sl) (K : Fl → Sl → Option β) : Option β := (retR ws (r, e)).bind fun r => K (.rt r) (wipeS e ws)
theorem c_ret (k : bnd (m env) (fun r e => retK ws r e K) = R) : bnd (mRetW ws m env) K = R := by
  rw [← k]; unfold mRetW bnd retK
  cases m env with
  | none => rfl
  | some p =>
    simp only [Option.bind_some]
    cases retR ws p <;> rfl
theorem c_retK (r' : Res) (h : retR ws (r, e) = some r') (hw : wipeS e ws = e2) (k : K (.rt r') e2 = R) : retK ws r e K = R := by
  unfold retK; rw [h, hw]; exact k
theorem c_ifS (k : bnd (t env) (fun c e => bnd (if c = true then a e else b e) K) = R) : bnd (mIfS t a b env) K = R := by
  rw [← k]; unfold mIfS bnd
  cases t env with
  | none => rfl
  | some p => cases p with | mk c e => cases c <;> rfl
def setK (i : Nat) (r : Res) (e : Sl) (K : Fl → Sl → Option β) : Option β := (putRes i (r, e)).bind fun e => K .nx e
theorem c_set (k : bnd (m env) (fun r e => setK i r e K) = R) : bnd (mSet i m env) K = R := by
  rw [← k]; unfold mSet bnd setK
  cases m env with
  | none => rfl
  | some p =>
    simp only [Option.bind_some]
    cases putRes i p <;> rfl
theorem c_setD (hs : e.set i (.val d) = e2) (k : K .nx e2 = R) : setK i (.dat d) e K = R := by
  subst hs; exact k
theorem c_setN {c : Cell} (hs : e.set i (.own c) = e2) (k : K .nx e2 = R) : setK i (.new c) e K = R := by
  subst hs; exact k
theorem c_setV (h : e[j]? = some (.val d)) (hs : e.set i (.val d) = e2) (k : K .nx e2 = R) : setK i (.slt j) e K = R := by
  subst hs; unfold setK putRes; simp only [frz, h]; exact k
theorem c_setO (h : e[j]? = some (.own (.lst ds))) (hs : e.set j (.val (.list ds)) = e1) (hs2 : e1.set i (.val (.list ds)) = e2) (k : K .nx e2 = R) : setK i (.slt j) e K = R := by
  subst hs hs2; unfold setK putRes; simp only [frz, h]; exact k
theorem c_aft (k : bnd (a env) (fun f e => bnd (some (aft ws (f, e))) K) = R) : bnd (mAft ws a env) K = R := by
  rw [← k]; unfold mAft bnd
  cases a env <;> rfl
theorem c_aftN (hw : wipeS e ws = e2) (k : K .nx e2 = R) : bnd (some (aft ws (.nx, e))) K = R := by
  subst hw; exact k
theorem c_aftB (hw : wipeS e ws = e2) (k : K .bk e2 = R) : bnd (some (aft ws (.bk, e))) K = R := by
  subst hw; exact k
theorem c_aftC (hw : wipeS e ws = e2) (k : K .ct e2 = R) : bnd (some (aft ws (.ct, e))) K = R := by
  subst hw; exact k
theorem c_aftR (k : K (.rt r) e = R) : bnd (some (aft ws (.rt r, e))) K = R := k
theorem c_bef (hw : wipeS env ws = e2) (k : bnd (a e2) K = R) : bnd (mBef ws a env) K = R := by
  subst hw; exact k
def augK (i : Nat) (a : Int) (f : Int → Int → Int) (r : Res) (e : Sl) (K : Fl → Sl → Option β) : Option β := match r with
  | .dat (.int b) => K .nx (e.set i (.val (.int (f a b))))
  | _ => none
theorem c_aug {x : Int} {f : Int → Int → Int} (h : env[i]? = some (.val (.int x))) (k : bnd (m env) (fun r e => augK i x f r e K) = R) : bnd (mAugI i f m env) K = R := by
  rw [← k]; unfold mAugI bnd augK
  rw [h]
  simp only
  cases m env with
  | none => rfl
  | some p =>
    cases p with
    | mk r e =>
      cases r with
      | dat d => cases d <;> rfl
      | _ => rfl
theorem c_augK {x y : Int} {f : Int → Int → Int} (hs : e.set i (.val (.int (f x y))) = e2) (k : K .nx e2 = R) : augK i x f (.dat (.int y)) e K = R := by
  subst hs; exact k
/-! targets -/
def asgK (g : MG) (r : Res) (e : Sl) (K : Fl → Sl → Option β) : Option β := match r with
  | .dat d => (g d e).bind fun e => K .nx e
  | _ => none
theorem c_asg {g : MG} (k : bnd (m env) (fun r e => bnd (frz (r, e)) fun r e => asgK g r e K) = R) : bnd (mAsg m g env) K = R := by
  rw [← k]; unfold mAsg mFrz bnd
  cases m env with
  | none => rfl
  | some p =>
    simp only [Option.bind_some]
    cases hq : frz p with
    | none => rfl
    | some q =>
      cases q with
      | mk r e =>
        cases r with
        | dat d =>
          show ((g d e).map _).bind _ = _
          simp only [Option.bind_some, asgK]
          cases g d e <;> rfl
        | _ => rfl
theorem c_asgK {g : MG} (k : (g d e).bind (fun e => K .nx e) = R) : asgK g (.dat d) e K = R := k
end
section
variable {K : Sl → Option β}
theorem c_gname (hs : e.set j (.val d) = e2) (k : K e2 = R) : (mgName j d e).bind K = R := by
  subst hs; exact k
theorem c_gtup {gs : MGs} (k : (gs ds e).bind K = R) : (mgTup gs (.tuple ds) e).bind K = R := k
theorem c_gcons {g : MG} {gs : MGs} (k : (g d e).bind (fun e => (gs ds e).bind K) = R) : (mgCons g gs (d :: ds) e).bind K = R := by
  rw [← k]
  show ((g d e).bind _).bind K = _
  cases g d e <;> rfl
theorem c_gnil (k : K e = R) : (mgNil [] e).bind K = R := k
def subK (i : Nat) (d : PyData) (r : Res) (e : Sl) (K : Sl → Option β) : Option β := match r with
  | .dat (.int k) => (lstAt e i).bind fun q => (ixN q.2.length k).bind fun j => K (e.set i (q.1.put (.lst (q.2.set j d))))
  | _ => none
theorem c_gsub {q : Slot × List PyData} (h : lstAt e i = some q) (k : bnd (m e) (fun r e => subK i d r e K) = R) : (mgSub i m d e).bind K = R := by
  rw [← k]; unfold mgSub bnd
  rw [h]
  simp only [Option.bind_some]
  cases m e with
  | none => rfl
  | some p =>
    cases p with
    | mk r e =>
      cases r with
      | dat x =>
        cases x with
        | int z =>
          simp only [Option.bind_some, subK]
          cases lstAt e i with
          | none => rfl
          | some q =>
            simp only [Option.bind_some]
            cases ixN q.2.length z <;> rfl
        | _ => rfl
      | _ => rfl
def pSet {α : Type} (l : List α) (i : Int) (x : α) : Option (List α) := (ixN l.length i).map fun k => l.set k x
theorem c_gsubK {α : Type} {ec : α → PyData} {l : List α} {x : α} {z : Int} {s : Slot} {k : List α → Option γ} {h : γ → Option β} (h1 : lstAt e i = some (s, l.map ec)) (p : ∀ l' : List α, K (e.set i (s.put (.lst (l'.map ec)))) = (k l').bind h) : subK i (ec x) (.dat (.int z)) e K = ((pSet l z x).bind k).bind h := by
  show ((lstAt e i).bind fun q => (ixN q.2.length z).bind fun j => K (e.set i (q.1.put (.lst (q.2.set j (ec x)))))) = _
  rw [h1]
  simp only [Option.bind_some, List.length_map, pSet]
  cases ixN l.length z with
  | none => rfl
  | some n =>
    show K (e.set i (s.put (.lst ((l.map ec).set n (ec x))))) = (k (l.set n x)).bind h
    rw [← p, List.map_set]
end
end
end Cm
namespace Cm
open PySem L2
/-! ### plain functions: parts -/
abbrev eI : Int → PyData := PyData.int
abbrev eB : Bool → PyData := PyData.bool
abbrev eS : Str → PyData := PyData.str
abbrev eU : Unit → PyData := fun _ => .none
abbrev eD : PyData → PyData := fun d => d
section
variable {α β γ δ ε ζ : Type}
abbrev eL (e : α → PyData) : List α → PyData := fun l => .list (l.map e)
abbrev eV (e : α → PyData) : List α → PyData := fun l => .tuple (l.map e)
abbrev eT1 (a : α → PyData) : α → PyData := fun p => .tuple [a p]
abbrev eT2 (a : α → PyData) (b : β → PyData) : α × β → PyData := fun p => .tuple [a p.1, b p.2]
abbrev eT3 (a : α → PyData) (b : β → PyData) (c : γ → PyData) : α × β × γ → PyData := fun p => .tuple [a p.1, b p.2.1, c p.2.2]
abbrev eT4 (a : α → PyData) (b : β → PyData) (c : γ → PyData) (d : δ → PyData) : α × β × γ × δ → PyData := fun p => .tuple [a p.1, b p.2.1, c p.2.2.1, d p.2.2.2]
abbrev eT5 (a : α → PyData) (b : β → PyData) (c : γ → PyData) (d : δ → PyData) (e : ε → PyData) : α × β × γ × δ × ε → PyData := fun p => .tuple [a p.1, b p.2.1, c p.2.2.1, d p.2.2.2.1, e p.2.2.2.2]
def eO (e : α → PyData) : Option α → PyData
  | none => .none
  | some x => e x
end
def gd (p : Prop) [Decidable p] : Option Unit := if p then some () else none
/-! whole numbers -/
def pMul (i j : Int) : Option Int := if (-(2 ^ 64) < i ∧ i < 2 ^ 64) ∨ (-(2 ^ 64) < j ∧ j < 2 ^ 64) then some (i * j) else none
def pDiv (i j : Int) : Option Int := if 0 < j ∧ j < 1073741824 then some (i / j) else none
def pMod (i j : Int) : Option Int := if 0 < j then some (i % j) else none
theorem x_mul {i j : Int} : gMul (.int i) (.int j) = (pMul i j).map (fun z => .dat (.int z)) := by
  simp only [gMul, pMul]; split <;> rfl
theorem x_div {i j : Int} : gDiv (.int i) (.int j) = (pDiv i j).map (fun z => .dat (.int z)) := by
  simp only [gDiv, pDiv]; split <;> rfl
theorem x_mod {i j : Int} : gMod (.int i) (.int j) = (pMod i j).map (fun z => .dat (.int z)) := by
  simp only [gMod, pMod]; split <;> rfl
theorem x_mulL {i j : Int} (h : -(2 ^ 64) < i ∧ i < 2 ^ 64) : gMul (.int i) (.int j) = some (.dat (.int (i * j))) := by
  simp only [gMul, if_pos (Or.inl h)]
theorem x_mulR {i j : Int} (h : -(2 ^ 64) < j ∧ j < 2 ^ 64) : gMul (.int i) (.int j) = some (.dat (.int (i * j))) := by
  simp only [gMul, if_pos (Or.inr h)]
theorem x_divC {i j : Int} (h : 0 < j ∧ j < 1073741824) : gDiv (.int i) (.int j) = some (.dat (.int (i / j))) := by
  simp only [gDiv, if_pos h]
theorem x_modC {i j : Int} (h : 0 < j) : gMod (.int i) (.int j) = some (.dat (.int (i % j))) := by
  simp only [gMod, if_pos h]
theorem x_add {i j : Int} : gAdd (.int i) (.int j) = some (.dat (.int (i + j))) := rfl
theorem x_sub {i j : Int} : gMinus (.int i) (.int j) = some (.dat (.int (i - j))) := rfl
theorem x_neg {i : Int} : gNeg (.int i) = some (.dat (.int (-i))) := rfl
theorem x_cmp {p : Int → Int → Bool} {i j : Int} : gCmp p (.int i) (.int j) = some (.dat (.bool (p i j))) := rfl
theorem x_int1 {f : Int → Int} {i : Int} : gInt1 f [.int i] = some (.dat (.int (f i))) := rfl
theorem x_int2 {f : Int → Int → Int} {i j : Int} : gInt2 f [.int i, .int j] = some (.dat (.int (f i j))) := rfl
theorem x_intI {i : Int} : gInt [.int i] = some (.dat (.int i)) := rfl
theorem x_intB {b : Bool} : gInt [.bool b] = some (.dat (.int (if b then 1 else 0))) := rfl
def pStr (i : Int) : Option Str := if i.natAbs.log2 < 1920 then some (toString i) else none
theorem x_str {i : Int} : gStr [.int i] = (pStr i).map (fun z => .dat (.str z)) := by
  simp only [gStr, pStr]; split <;> rfl
/-! equality -/
theorem x_eqI {neg : Bool} {a b : Int} : gEq neg (.int a) (.int b) = some (.dat (.bool (neg ^^ decide (a = b)))) := by
  simp only [gEq, scalD, Bool.true_or, if_true]
  rfl
theorem x_eqB {neg : Bool} {a b : Bool} : gEq neg (.bool a) (.bool b) = some (.dat (.bool (neg ^^ decide (a = b)))) := by
  simp only [gEq, scalD, Bool.true_or, if_true, PyData.eqv]
  cases a <;> cases b <;> rfl
theorem x_eqS {neg : Bool} {a b : Str} : gEq neg (.str a) (.str b) = some (.dat (.bool (neg ^^ decide (a = b)))) := by
  simp only [gEq, scalD, Bool.true_or, if_true]
  rfl
def pEqD (neg : Bool) (dx dy : PyData) : Option Bool := if (scalD dx dy || (SeqAt.shaped dx && SeqAt.shaped dy)) = true then some (neg ^^ PyData.eqv dx dy) else none
theorem x_eqD {neg : Bool} {dx dy : PyData} : gEq neg dx dy = (pEqD neg dx dy).map (fun z => .dat (.bool z)) := by
  simp only [gEq, pEqD]; split <;> rfl
/-- an encoder by which likeness is equality -/
structure EqE {α : Type} (e : α → PyData) [DecidableEq α] : Prop where
  eq : ∀ x y, PyData.eqv (e x) (e y) = decide (x = y)
theorem eqE_int : EqE eI := ⟨fun _ _ => rfl⟩
theorem eqE_str : EqE eS := ⟨fun _ _ => rfl⟩
theorem eqE_bool : EqE eB := ⟨fun x y => by cases x <;> cases y <;> rfl⟩
theorem eqvAll_map {α : Type} [DecidableEq α] {e : α → PyData} (h : EqE e) : ∀ xs ys : List α, PyData.eqvAll (xs.map e) (ys.map e) = decide (xs = ys)
  | [], [] => rfl
  | [], _ :: _ => rfl
  | _ :: _, [] => rfl
  | x :: xs, y :: ys => by
    show (PyData.eqv (e x) (e y) && PyData.eqvAll (xs.map e) (ys.map e)) = _
    rw [eqvAll_map h xs ys, h.eq]
    simp
theorem eqE_list {α : Type} [DecidableEq α] {e : α → PyData} (h : EqE e) : EqE (eL e) := ⟨fun x y => eqvAll_map h x y⟩
theorem eqE_t2 {α β : Type} [DecidableEq α] [DecidableEq β] {a : α → PyData} {b : β → PyData} (ha : EqE a) (hb : EqE b) : EqE (eT2 a b) := ⟨fun x y => by
  show (PyData.eqv (a x.1) (a y.1) && (PyData.eqv (b x.2) (b y.2) && true)) = _
  rw [ha.eq, hb.eq]
  obtain ⟨x1, x2⟩ := x
  obtain ⟨y1, y2⟩ := y
  simp⟩
theorem eqE_t3 {α β γ : Type} [DecidableEq α] [DecidableEq β] [DecidableEq γ] {a : α → PyData} {b : β → PyData} {c : γ → PyData} (ha : EqE a) (hb : EqE b) (hc : EqE c) : EqE (eT3 a b c) := ⟨fun x y => by
  show (PyData.eqv (a x.1) (a y.1) && (PyData.eqv (b x.2.1) (b y.2.1) && (PyData.eqv (c x.2.2) (c y.2.2) && true))) = _
  rw [ha.eq, hb.eq, hc.eq]
  obtain ⟨x1, x2, x3⟩ := x
  obtain ⟨y1, y2, y3⟩ := y
  simp⟩
theorem eqE_t5 {α β γ δ ε : Type} [DecidableEq α] [DecidableEq β] [DecidableEq γ] [DecidableEq δ] [DecidableEq ε] {a : α → PyData} {b : β → PyData} {c : γ → PyData} {d : δ → PyData} {e : ε → PyData} (ha : EqE a) (hb : EqE b) (hc : EqE c) (hd : EqE d) (he : EqE e) : EqE (eT5 a b c d e) := ⟨fun x y => by
  show (PyData.eqv (a x.1) (a y.1) && (PyData.eqv (b x.2.1) (b y.2.1) && (PyData.eqv (c x.2.2.1) (c y.2.2.1) && (PyData.eqv (d x.2.2.2.1) (d y.2.2.2.1) && (PyData.eqv (e x.2.2.2.2) (e y.2.2.2.2) && true))))) = _
  rw [ha.eq, hb.eq, hc.eq, hd.eq, he.eq]
  obtain ⟨x1, x2, x3, x4, x5⟩ := x
  obtain ⟨y1, y2, y3, y4, y5⟩ := y
  simp⟩
def pEq {α : Type} [DecidableEq α] (e : α → PyData) (neg : Bool) (x y : α) : Option Bool := if (SeqAt.shaped (e x) && SeqAt.shaped (e y)) = true then some (neg ^^ decide (x = y)) else none
theorem x_eqE {α : Type} [DecidableEq α] {e : α → PyData} (h : EqE e) {neg : Bool} {x y : α} (hs : scalD (e x) (e y) = false) : gEq neg (e x) (e y) = (pEq e neg x y).map (fun z => .dat (.bool z)) := by
  simp only [gEq, pEq, h.eq, hs, Bool.false_or]; split <;> rfl
/-! numbers alone -/
def depthOkI (l : List Int) : SeqAt.shaped (.list (l.map .int)) = true := by
  have h1 : ∀ l : List Int, PyData.canLayAll0 (l.map .int) = true := fun l => by
    induction l with
    | nil => rfl
    | cons x l ih => simp [PyData.canLayAll0, PyData.canLay0, ih]
  have h2 : ∀ l : List Int, PyData.depthAll (l.map .int) ≤ 1 := fun l => by
    induction l with
    | nil => simp [PyData.depthAll]
    | cons x l ih => simp [PyData.depthAll, PyData.depth]; omega
  have h3 := h2 l
  have h4 : PyData.depth (.list (l.map .int)) ≤ 64 := by
    simp only [PyData.depth]
    omega
  simp [SeqAt.shaped, PyData.canLay0, h1, h4]
theorem x_eqLI {neg : Bool} {a b : List Int} : gEq neg (.list (a.map .int)) (.list (b.map .int)) = some (.dat (.bool (neg ^^ decide (a = b)))) := by
  simp only [gEq, depthOkI, Bool.and_self, Bool.or_true, if_true]
  show some (Res.dat (.bool (neg ^^ PyData.eqvAll (a.map .int) (b.map .int)))) = _
  rw [eqvAll_map eqE_int]
/-! items -/
def pIx {α : Type} (l : List α) (i : Int) : Option α := atI l i
theorem atI_map {α β : Type} (f : α → β) (l : List α) (i : Int) : atI (l.map f) i = (atI l i).map f := by
  unfold atI
  rw [List.length_map]
  cases ixN l.length i with
  | none => rfl
  | some k => simp [List.getElem?_map]
theorem x_ix {α : Type} {e : α → PyData} {l : List α} {i : Int} : gIx (.list (l.map e)) (.int i) = (pIx l i).map (fun z => .dat (e z)) := by
  show (atI (l.map e) i).map Res.dat = _
  rw [atI_map, Option.map_map]
  rfl
theorem x_ixV {α : Type} {e : α → PyData} {l : List α} {i : Int} : gIx (.tuple (l.map e)) (.int i) = (pIx l i).map (fun z => .dat (e z)) := by
  show (atI (l.map e) i).map Res.dat = _
  rw [atI_map, Option.map_map]
  rfl
def pIxS (z : Str) (i : Int) : Option Str := if z.length ≤ 100000 then (atI z.cps.toList i).map fun c => ⟨#[c]⟩ else none
theorem x_ixS {z : Str} {i : Int} : gIx (.str z) (.int i) = (pIxS z i).map (fun z => .dat (.str z)) := by
  simp only [gIx, pIxS]
  split
  · rw [Option.map_map]; rfl
  · rfl
/-- a place written in a tuple -/
theorem x_ixT {ds : List PyData} {i : Int} {d : PyData} (h : atI ds i = some d) : gIx (.tuple ds) (.int i) = some (.dat d) := by
  simp only [gIx, h]; rfl
/-! lists -/
def pCat {α : Type} (a b : List α) : Option (List α) := if a.length + b.length ≤ 100000 then some (a ++ b) else none
theorem x_cat {α : Type} {e : α → PyData} {a b : List α} : gAdd (.list (a.map e)) (.list (b.map e)) = (pCat a b).map (fun l => .new (.lst (l.map e))) := by
  simp only [gAdd, pCat, List.length_map]
  split
  · simp
  · rfl
def pCatS (a b : Str) : Option Str := if a.length + b.length ≤ 100000 then some (a ++ b) else none
theorem x_catS {a b : Str} : gAdd (.str a) (.str b) = (pCatS a b).map (fun z => .dat (.str z)) := by
  simp only [gAdd, pCatS]; split <;> rfl
def repL {α : Type} (l : List α) (k : Int) : List α := (List.replicate k.toNat l).flatten
def pRep {α : Type} (l : List α) (k : Int) : Option (List α) := if -(2 ^ 63) ≤ k ∧ k < 2 ^ 63 ∧ l.length * k.toNat ≤ 100000 then some (repL l k) else none
theorem x_rep {α : Type} {e : α → PyData} {l : List α} {k : Int} : gMul (.list (l.map e)) (.int k) = (pRep l k).map (fun l => .new (.lst (l.map e))) := by
  simp only [gMul, pRep, List.length_map]
  split
  · simp [repD, repL, List.map_flatten, List.map_replicate]
  · rfl
theorem x_len {ds : List PyData} : gLen [.list ds] = some (.dat (.int ds.length)) := rfl
theorem x_lenL {α : Type} {e : α → PyData} {l : List α} : gLen [.list (l.map e)] = some (.dat (.int l.length)) := by
  simp only [gLen, List.length_map]
theorem x_lenV {α : Type} {e : α → PyData} {l : List α} : gLen [.tuple (l.map e)] = some (.dat (.int l.length)) := by
  simp only [gLen, List.length_map]
def pLenS (x : Str) : Option Int := if x.length ≤ 100000 then some x.length else none
theorem x_lenS {x : Str} : gLen [.str x] = (pLenS x).map (fun z => .dat (.int z)) := by
  simp only [gLen, pLenS]; split <;> rfl
theorem x_listL {ds : List PyData} : gList [.list ds] = some (.new (.lst ds)) := rfl
theorem x_listT {ds : List PyData} : gList [.tuple ds] = some (.new (.lst ds)) := rfl
theorem intsD_map : ∀ l : List Int, intsD (l.map .int) = some l
  | [] => rfl
  | x :: l => by
    show (intsD (l.map .int)).map (x :: ·) = _
    rw [intsD_map l]; rfl
theorem boolsD_map : ∀ l : List Bool, boolsD (l.map .bool) = some l
  | [] => rfl
  | x :: l => by
    show (boolsD (l.map .bool)).map (x :: ·) = _
    rw [boolsD_map l]; rfl
theorem x_sum {l : List Int} : gSum [.list (l.map .int)] = some (.dat (.int l.sum)) := by
  simp only [gSum, intsD_map]; rfl
theorem x_all {l : List Bool} : gAll [.list (l.map .bool)] = some (.dat (.bool (l.all id))) := by
  simp only [gAll, boolsD_map]; rfl
theorem x_any {l : List Bool} : gAny [.list (l.map .bool)] = some (.dat (.bool (l.any id))) := by
  simp only [gAny, boolsD_map]; rfl
def cutL {α : Type} (l : List α) (lo hi : Option Int) : List α := (l.drop (HT.sIx l.length 0 lo)).take (HT.sIx l.length l.length hi - HT.sIx l.length 0 lo)
theorem x_cut {α : Type} {e : α → PyData} {l : List α} {lo hi : Option Int} : gSlL (.list (l.map e)) lo hi = some (.new (.lst ((cutL l lo hi).map e))) := by
  simp only [gSlL, cutD, cutL, List.length_map, List.map_take, List.map_drop]
theorem x_sorted {l : List Int} : gSorted [.list (l.map .int)] = some (.new (.lst ((isort l).map .int))) := by
  simp only [gSorted, intsD_map]; rfl
/-! mutation -/
def pApp {α : Type} (l : List α) (x : α) : Option (List α) := if l.length < 100000 then some (l ++ [x]) else none
theorem x_app {α : Type} {e : α → PyData} {l : List α} {x : α} : fApp (l.map e) [e x] = (pApp l x).map (fun l => (l.map e, .none)) := by
  simp only [fApp, pApp, List.length_map]
  split
  · simp
  · rfl
theorem x_ext {α : Type} {e : α → PyData} {l l' : List α} : fExt (l.map e) [.list (l'.map e)] = (pCat l l').map (fun l => (l.map e, .none)) := by
  simp only [fExt, pCat, List.length_map]
  split
  · simp
  · rfl
theorem x_revM {α : Type} {e : α → PyData} {l : List α} : fRev (l.map e) [] = some (l.reverse.map e, .none) := by
  simp only [fRev, List.map_reverse]
def pPopAt {α : Type} (l : List α) (i : Int) : Option (α × List α) := if 0 ≤ i ∧ i < 2 ^ 62 then (l[i.toNat]?).map fun d => (d, l.eraseIdx i.toNat) else none
theorem x_popAt {α : Type} {e : α → PyData} {l : List α} {i : Int} : fPopAt (l.map e) [.int i] = (pPopAt l i).map (fun z => (z.2.map e, e z.1)) := by
  simp only [fPopAt, pPopAt]
  split
  · rw [List.getElem?_map, Option.map_map, Option.map_map]
    cases l[i.toNat]? with
    | none => rfl
    | some x => simp [List.eraseIdx_eq_take_drop_succ, List.map_take, List.map_drop]
  · rfl
/-! isinstance -/
/-! ranges, walks -/
def rangeI (n : Int) : List Int := (List.range n.toNat).map fun i : Nat => (i : Int)
def pRng (n : Int) : Option (List Int) := if -(2 ^ 62) ≤ n ∧ n < 2 ^ 62 then some (rangeI n) else none
def rangeJ (i j : Int) : List Int := (List.range (j - i).toNat).map fun k : Nat => i + (k : Int)
def pRng2 (i j : Int) : Option (List Int) := if (-(2 ^ 62) ≤ i ∧ i < 2 ^ 62) ∧ -(2 ^ 62) ≤ j ∧ j < 2 ^ 62 then some (rangeJ i j) else none
def pRng3 (i j c : Int) : Option (List Int) := if (c ≠ 0 ∧ c.natAbs < 1073741824) ∧ Builtin.Range.small i j c = true then some ((List.range (Builtin.Range.rangeSize i j c).toNat).map fun k => i + (k : Nat) * c) else none
def enumI {α : Type} : Nat → List α → List (Int × α)
  | _, [] => []
  | i, x :: l => ((i : Int), x) :: enumI (i + 1) l
theorem enum_map {α : Type} {e : α → PyData} : ∀ (i : Nat) (l : List α), enumD i (l.map e) = (enumI i l).map (eT2 eI e)
  | _, [] => rfl
  | i, x :: l => by
    show _ :: enumD (i + 1) (l.map e) = _
    rw [enum_map (i + 1) l]; rfl
theorem zip_map {α β : Type} {e : α → PyData} {f : β → PyData} : ∀ (l : List α) (l' : List β), zipD (l.map e) (l'.map f) = (l.zip l').map (eT2 e f)
  | [], _ => by cases ‹List β› <;> rfl
  | _ :: _, [] => rfl
  | x :: l, y :: l' => by
    show _ :: zipD (l.map e) (l'.map f) = _
    rw [zip_map l l']; rfl
section
variable {β γ : Type} {env e e2 : Sl} {R : Option β} {m : ME} {ms : MA} {K : List PyData → Sl → Option β} {ds : List PyData}
def itLK (r : Res) (e : Sl) (K : List PyData → Sl → Option β) : Option β := match r with
  | .dat (.list ds) => K ds e
  | _ => none
theorem c_itL (k : bnd (m env) (fun r e => bnd (frz (r, e)) fun r e => itLK r e K) = R) : bnd (mItL m env) K = R := by
  rw [← k]; unfold mItL mFrz bnd
  cases m env with
  | none => rfl
  | some p =>
    simp only [Option.bind_some]
    cases frz p with
    | none => rfl
    | some q =>
      cases q with
      | mk r e =>
        cases r with
        | dat d => cases d <;> rfl
        | _ => rfl
theorem c_itLK (k : K ds e = R) : itLK (.dat (.list ds)) e K = R := k
def itTK (r : Res) (e : Sl) (K : List PyData → Sl → Option β) : Option β := match r with
  | .dat (.tuple ds) => K ds e
  | _ => none
theorem c_itT (k : bnd (m env) (fun r e => bnd (frz (r, e)) fun r e => itTK r e K) = R) : bnd (mItT m env) K = R := by
  rw [← k]; unfold mItT mFrz bnd
  cases m env with
  | none => rfl
  | some p =>
    simp only [Option.bind_some]
    cases frz p with
    | none => rfl
    | some q =>
      cases q with
      | mk r e =>
        cases r with
        | dat d => cases d <;> rfl
        | _ => rfl
theorem c_itTK (k : K ds e = R) : itTK (.dat (.tuple ds)) e K = R := k
def rngK (rs : List Res) (e : Sl) (K : List PyData → Sl → Option β) : Option β := (rdAll e rs).bind fun ds => match ds with
  | [.int j] => (pRng j).bind fun l => K (l.map eI) e
  | _ => none
theorem c_rng (k : bnd (ms env) (fun rs e => rngK rs e K) = R) : bnd (mRange1 ms env) K = R := by
  rw [← k]; unfold mRange1 bnd rngK
  cases ms env with
  | none => rfl
  | some p =>
    simp only [Option.bind_some]
    cases rdAll p.2 p.1 with
    | none => rfl
    | some ds =>
      simp only [Option.bind_some]
      rcases ds with _ | ⟨d1, _ | ⟨d2, _ | ⟨d3, _ | ⟨d4, ds⟩⟩⟩⟩
      · rfl
      · cases d1 with
        | int i =>
          simp only [pRng]
          split
          · simp [rangeI, Function.comp_def]
          · rfl
        | _ => rfl
      · cases d1 <;> first | rfl | (cases d2 <;> first | rfl | (cases d3 <;> first | rfl | (cases d4 <;> rfl)))
      · cases d1 <;> first | rfl | (cases d2 <;> first | rfl | (cases d3 <;> first | rfl | (cases d4 <;> rfl)))
      · cases d1 <;> first | rfl | (cases d2 <;> first | rfl | (cases d3 <;> first | rfl | (cases d4 <;> rfl)))
theorem c_rngK {j : Int} {rs : List Res} {k : List Int → Option γ} {h : γ → Option β} (h1 : rdAll e rs = some [.int j]) (p : ∀ l, K (l.map eI) e = (k l).bind h) : rngK rs e K = ((pRng j).bind k).bind h := by
  unfold rngK; rw [h1]
  show ((pRng j).bind fun l => K (l.map eI) e) = _
  cases pRng j with
  | none => rfl
  | some l => exact p l
def rng2K (rs : List Res) (e : Sl) (K : List PyData → Sl → Option β) : Option β := (rdAll e rs).bind fun ds => match ds with
  | [.int i, .int j] => (pRng2 i j).bind fun l => K (l.map eI) e
  | _ => none
theorem c_rng2 (k : bnd (ms env) (fun rs e => rng2K rs e K) = R) : bnd (mRange2 ms env) K = R := by
  rw [← k]; unfold mRange2 bnd rng2K
  cases ms env with
  | none => rfl
  | some p =>
    simp only [Option.bind_some]
    cases rdAll p.2 p.1 with
    | none => rfl
    | some ds =>
      simp only [Option.bind_some]
      rcases ds with _ | ⟨d1, _ | ⟨d2, _ | ⟨d3, _ | ⟨d4, ds⟩⟩⟩⟩
      · rfl
      · cases d1 <;> first | rfl | (cases d2 <;> first | rfl | (cases d3 <;> first | rfl | (cases d4 <;> rfl)))
      · cases d1 with
        | int i =>
          cases d2 with
          | int j =>
            simp only [pRng2]
            split
            · simp [rangeJ, Function.comp_def]
            · rfl
          | _ => rfl
        | _ => rfl
      · cases d1 <;> first | rfl | (cases d2 <;> first | rfl | (cases d3 <;> first | rfl | (cases d4 <;> rfl)))
      · cases d1 <;> first | rfl | (cases d2 <;> first | rfl | (cases d3 <;> first | rfl | (cases d4 <;> rfl)))
theorem c_rng2K {i j : Int} {rs : List Res} {k : List Int → Option γ} {h : γ → Option β} (h1 : rdAll e rs = some [.int i, .int j]) (p : ∀ l, K (l.map eI) e = (k l).bind h) : rng2K rs e K = ((pRng2 i j).bind k).bind h := by
  unfold rng2K; rw [h1]
  show ((pRng2 i j).bind fun l => K (l.map eI) e) = _
  cases pRng2 i j with
  | none => rfl
  | some l => exact p l
def rng3K (rs : List Res) (e : Sl) (K : List PyData → Sl → Option β) : Option β := (rdAll e rs).bind fun ds => match ds with
  | [.int i, .int j, .int c] => (pRng3 i j c).bind fun l => K (l.map eI) e
  | _ => none
theorem c_rng3 (k : bnd (ms env) (fun rs e => rng3K rs e K) = R) : bnd (mRange3 ms env) K = R := by
  rw [← k]; unfold mRange3 bnd rng3K
  cases ms env with
  | none => rfl
  | some p =>
    simp only [Option.bind_some]
    cases rdAll p.2 p.1 with
    | none => rfl
    | some ds =>
      simp only [Option.bind_some]
      rcases ds with _ | ⟨d1, _ | ⟨d2, _ | ⟨d3, _ | ⟨d4, ds⟩⟩⟩⟩
      · rfl
      · cases d1 <;> first | rfl | (cases d2 <;> first | rfl | (cases d3 <;> first | rfl | (cases d4 <;> rfl)))
      · cases d1 <;> first | rfl | (cases d2 <;> first | rfl | (cases d3 <;> first | rfl | (cases d4 <;> rfl)))
      · cases d1 with
        | int i =>
          cases d2 with
          | int j =>
            cases d3 with
            | int c =>
              simp only [pRng3]
              split
              · simp [Function.comp_def]
              · rfl
            | _ => rfl
          | _ => rfl
        | _ => rfl
      · cases d1 <;> first | rfl | (cases d2 <;> first | rfl | (cases d3 <;> first | rfl | (cases d4 <;> rfl)))
theorem c_rng3K {i j c : Int} {rs : List Res} {k : List Int → Option γ} {h : γ → Option β} (h1 : rdAll e rs = some [.int i, .int j, .int c]) (p : ∀ l, K (l.map eI) e = (k l).bind h) : rng3K rs e K = ((pRng3 i j c).bind k).bind h := by
  unfold rng3K; rw [h1]
  show ((pRng3 i j c).bind fun l => K (l.map eI) e) = _
  cases pRng3 i j c with
  | none => rfl
  | some l => exact p l
def enumK (rs : List Res) (e : Sl) (K : List PyData → Sl → Option β) : Option β := match rs with
  | [.dat (.list ds)] => K (enumD 0 ds) e
  | _ => none
theorem c_enum (k : bnd (ms env) (fun rs e => enumK rs e K) = R) : bnd (mEnum ms env) K = R := by
  rw [← k]; unfold mEnum bnd enumK
  cases ms env with
  | none => rfl
  | some p =>
    cases p with
    | mk rs e =>
      rcases rs with _ | ⟨r1, _ | ⟨r2, rs⟩⟩
      · rfl
      · cases r1 with
        | dat d => cases d <;> rfl
        | _ => rfl
      · cases r1 with
        | dat d => cases d <;> rfl
        | _ => rfl
theorem c_enumK {α : Type} {rs : List Res} {ec : α → PyData} {l : List α} (h : rs = [.dat (.list (l.map ec))]) (k : K ((enumI 0 l).map (eT2 eI ec)) e = R) : enumK rs e K = R := by
  subst h
  show K (enumD 0 (l.map ec)) e = R
  rw [enum_map]; exact k
def zipK (rs : List Res) (e : Sl) (K : List PyData → Sl → Option β) : Option β := match rs with
  | [.dat (.list xs), .dat (.list ys)] => K (zipD xs ys) e
  | _ => none
theorem c_zip (k : bnd (ms env) (fun rs e => zipK rs e K) = R) : bnd (mZip ms env) K = R := by
  rw [← k]; unfold mZip bnd zipK
  cases ms env with
  | none => rfl
  | some p =>
    cases p with
    | mk rs e =>
      rcases rs with _ | ⟨r1, _ | ⟨r2, _ | ⟨r3, rs⟩⟩⟩
      · rfl
      · cases r1 <;> first | rfl | (rename_i d; cases d <;> rfl)
      · cases r1 with
        | dat d =>
          cases d with
          | list xs =>
            cases r2 with
            | dat d => cases d <;> rfl
            | _ => rfl
          | _ => rfl
        | _ => rfl
      · cases r1 with
        | dat d =>
          cases d with
          | list xs =>
            cases r2 with
            | dat d => cases d <;> rfl
            | _ => rfl
          | _ => rfl
        | _ => rfl
theorem c_zipK {α α' : Type} {rs : List Res} {ec : α → PyData} {ed : α' → PyData} {l : List α} {l' : List α'} (h : rs = [.dat (.list (l.map ec)), .dat (.list (l'.map ed))]) (k : K ((l.zip l').map (eT2 ec ed)) e = R) : zipK rs e K = R := by
  subst h
  show K (zipD (l.map ec) (l'.map ed)) e = R
  rw [zip_map]; exact k
def revK (rs : List Res) (e : Sl) (K : List PyData → Sl → Option β) : Option β := match rs with
  | [.dat (.list xs)] => K xs.reverse e
  | _ => none
theorem c_rev (k : bnd (ms env) (fun rs e => revK rs e K) = R) : bnd (mRev ms env) K = R := by
  rw [← k]; unfold mRev bnd revK
  cases ms env with
  | none => rfl
  | some p =>
    cases p with
    | mk rs e =>
      rcases rs with _ | ⟨r1, _ | ⟨r2, rs⟩⟩
      · rfl
      · cases r1 with
        | dat d => cases d <;> rfl
        | _ => rfl
      · cases r1 with
        | dat d => cases d <;> rfl
        | _ => rfl
theorem c_revK {α : Type} {rs : List Res} {ec : α → PyData} {l : List α} (h : rs = [.dat (.list (l.map ec))]) (k : K (l.reverse.map ec) e = R) : revK rs e K = R := by
  subst h
  show K (l.map ec).reverse e = R
  rw [← List.map_reverse]; exact k
end
end Cm
namespace Cm
open PySem L2
/-! ### loops -/
section
variable {α β γ ρ σ τ : Type}
def forP (body : α → σ → Option σ) : List α → σ → Option σ
  | [], s => some s
  | x :: xs, s => (body x s).bind (forP body xs)
inductive Fw (ρ σ : Type) where
  | nx (s : σ)
  | bk (s : σ)
  | rt (r : ρ)
def Fw.on (w : Fw ρ σ) (f : ρ → β) (g : σ → β) : β := match w with
  | .rt r => f r
  | .nx s => g s
  | .bk s => g s
def forR (body : α → σ → Option (Fw ρ σ)) : List α → σ → Option (Fw ρ σ)
  | [], s => some (.nx s)
  | x :: xs, s => (body x s).bind fun w => match w with
    | .nx s => forR body xs s
    | .bk s => some (.nx s)
    | .rt r => some (.rt r)
def outN (E : σ → Sl) : σ → Fl × Sl := fun s => (.nx, E s)
def outB (oR : ρ → Res) (eR : ρ → Sl) (E : σ → Sl) : Fw ρ σ → Fl × Sl
  | .nx s => (.nx, E s)
  | .bk s => (.bk, E s)
  | .rt r => (.rt (oR r), eR r)
def outL (oR : ρ → Res) (eR : ρ → Sl) (E : σ → Sl) : Fw ρ σ → Fl × Sl
  | .nx s => (.nx, E s)
  | .bk s => (.nx, E s)
  | .rt r => (.rt (oR r), eR r)
variable {g : MG} {b : MS} {ec : α → PyData} {E : σ → Sl} {oR : ρ → Res} {eR : ρ → Sl}
theorem forL_P {body : α → σ → Option σ} (hb : ∀ x s, (g (ec x) (E s)).bind b = (body x s).map (outN E)) : ∀ (xs : List α) (s : σ), forL g b (xs.map ec) (E s) = (forP body xs s).map (outN E)
  | [], s => rfl
  | x :: xs, s => by
    show ((g (ec x) (E s)).bind fun e1 => (b e1).bind _) = _
    rw [← Option.bind_assoc, hb x s]
    show _ = Option.map _ ((body x s).bind (forP body xs))
    cases body x s with
    | none => rfl
    | some s' => exact forL_P hb xs s'
theorem forL_R {body : α → σ → Option (Fw ρ σ)} (hb : ∀ x s, (g (ec x) (E s)).bind b = (body x s).map (outB oR eR E)) : ∀ (xs : List α) (s : σ), forL g b (xs.map ec) (E s) = (forR body xs s).map (outL oR eR E)
  | [], s => rfl
  | x :: xs, s => by
    show ((g (ec x) (E s)).bind fun e1 => (b e1).bind _) = _
    rw [← Option.bind_assoc, hb x s]
    show _ = Option.map _ ((body x s).bind _)
    cases body x s with
    | none => rfl
    | some w =>
      cases w with
      | nx s' => exact forL_R hb xs s'
      | bk s' => rfl
      | rt r => rfl
variable {K : Fl → Sl → Option β} {mi : MI} {env e e2 : Sl} {R : Option β}
theorem c_for (k : bnd (mi env) (fun ds e => bnd (forL g b ds e) K) = R) : bnd (mFor mi g b env) K = R := by
  rw [← k]; unfold mFor bnd
  cases mi env <;> rfl
theorem c_loop {L : Option (Fl × Sl)} {W : Option σ} {k : σ → Option γ} {h : γ → Option β} (q : L = W.map (outN E)) (p : ∀ s, K .nx (E s) = (k s).bind h) : bnd L K = (W.bind k).bind h := c_cal2 q p
theorem c_loopR {L : Option (Fl × Sl)} {W : Option (Fw ρ σ)} {f : ρ → Option γ} {k : σ → Option γ} {h : γ → Option β} (q : L = W.map (outL oR eR E)) (p1 : ∀ r, K (.rt (oR r)) (eR r) = (f r).bind h) (p2 : ∀ s, K .nx (E s) = (k s).bind h) : bnd L K = (W.bind fun w => w.on f k).bind h := by
  subst q
  cases W with
  | none => rfl
  | some w =>
    cases w with
    | nx s => exact p2 s
    | bk s => exact p2 s
    | rt r => exact p1 r
/-- a body's turn: from the target on -/
theorem c_body {body : Option τ} {out : τ → Fl × Sl} {d : PyData} (k : (g d e).bind (fun e => bnd (b e) fun f e => some (f, e)) = body.bind fun z => some (out z)) : (g d e).bind b = body.map out := by
  have h1 : ∀ x : Option (Fl × Sl), bnd x (fun f e => some (f, e)) = x := fun x => by cases x <;> rfl
  simp only [h1] at k
  rw [k]
  cases body <;> rfl
/-! while -/
def whP (t : σ → Option Bool) (body : σ → Option σ) : Nat → σ → Option σ
  | 0, _ => none
  | n + 1, s => (t s).bind fun c => if c = true then (body s).bind (whP t body n) else some s
theorem whileL_P {mt : MT} {t : σ → Option Bool} {body : σ → Option σ} (ht : ∀ s, mt (E s) = (t s).map fun c => (c, E s)) (hb : ∀ s, b (E s) = (body s).map (outN E)) : ∀ (n : Nat) (s : σ), whileL mt b n (E s) = (whP t body n s).map (outN E)
  | 0, s => rfl
  | n + 1, s => by
    show ((mt (E s)).bind _) = _
    rw [ht]
    show _ = Option.map _ ((t s).bind _)
    cases t s with
    | none => rfl
    | some c =>
      cases c with
      | false => rfl
      | true =>
        simp only [Option.map_some, Option.bind_some, if_true, hb]
        cases body s with
        | none => rfl
        | some s' => exact whileL_P ht hb n s'
end
/-! ### comprehensions -/
section
variable {α β γ σ τ : Type}
def mapO (f : α → Option τ) : List α → Option (List τ)
  | [] => some []
  | x :: xs => (f x).bind fun y => (mapO f xs).map (y :: ·)
def fmO (f : α → Option (Option τ)) : List α → Option (List τ)
  | [] => some []
  | x :: xs => (f x).bind fun y => (fmO f xs).map (y.toList ++ ·)
def mapS (f : α → σ → Option (τ × σ)) : List α → σ → Option (List τ × σ)
  | [], s => some ([], s)
  | x :: xs, s => (f x s).bind fun y => (mapS f xs y.2).map fun z => (y.1 :: z.1, z.2)
def fmS (f : α → σ → Option (Option τ × σ)) : List α → σ → Option (List τ × σ)
  | [], s => some ([], s)
  | x :: xs, s => (f x s).bind fun y => (fmS f xs y.2).map fun z => (y.1.toList ++ z.1, z.2)
/-- one turn -/
def lcElt (vs : List Nat) (r : Res) (e : Sl) : Option (Option PyData × Sl) := match r with
  | .dat x => some (some x, wipeS e vs)
  | _ => none
def lcStep (g : MG) (t : MT) (me : ME) (vs : List Nat) (d : PyData) (e : Sl) : Option (Option PyData × Sl) :=
  (g d e).bind fun e1 => bnd (t e1) fun c e2 => bnd (if c = true then bnd (me e2) (fun r e => bnd (frz (r, e)) fun r e => lcElt vs r e) else some (none, wipeS e2 vs)) fun x e => some (x, e)
variable {g : MG} {t : MT} {me : ME} {vs : List Nat} {ec : α → PyData} {ed : τ → PyData} {E : σ → Sl}
theorem lcL_step (d : PyData) (ds : List PyData) (e : Sl) (acc : List PyData) : lcL g t me vs (d :: ds) e acc = (lcStep g t me vs d e).bind fun q => lcL g t me vs ds q.2 (acc ++ q.1.toList) := by
  show ((g d e).bind fun e1 => (t e1).bind fun p => if p.1 = true then (mFrz me p.2).bind _ else _) = _
  unfold lcStep bnd mFrz
  cases g d e with
  | none => rfl
  | some e1 =>
    simp only [Option.bind_some]
    cases t e1 with
    | none => rfl
    | some p =>
      cases p with
      | mk c e2 =>
        cases c with
        | false => simp
        | true =>
          simp only [Option.bind_some, if_true]
          cases me e2 with
          | none => rfl
          | some q =>
            simp only [Option.bind_some]
            cases frz (q.1, q.2) with
            | none => rfl
            | some w =>
              cases w with
              | mk r e => cases r <;> rfl
theorem lc_fmS {f : α → σ → Option (Option τ × σ)} (hb : ∀ x s, lcStep g t me vs (ec x) (E s) = (f x s).map fun z => (z.1.map ed, E z.2)) : ∀ (xs : List α) (s : σ) (acc : List PyData), lcL g t me vs (xs.map ec) (E s) acc = (fmS f xs s).map fun z => (acc ++ z.1.map ed, E z.2)
  | [], s, acc => by
    show some (acc, E s) = some (acc ++ [], E s)
    rw [List.append_nil]
  | x :: xs, s, acc => by
    rw [List.map_cons, lcL_step, hb]
    show _ = Option.map _ ((f x s).bind _)
    cases f x s with
    | none => rfl
    | some y =>
      simp only [Option.map_some, Option.bind_some]
      rw [lc_fmS hb xs y.2]
      cases fmS f xs y.2 with
      | none => rfl
      | some z =>
        cases y with
        | mk y1 y2 => cases y1 <;> simp
theorem fmS_map {f : α → σ → Option (τ × σ)} : ∀ (xs : List α) (s : σ), fmS (fun x s => (f x s).map fun z => (some z.1, z.2)) xs s = mapS f xs s
  | [], s => rfl
  | x :: xs, s => by
    show ((f x s).map _).bind _ = (f x s).bind _
    cases f x s with
    | none => rfl
    | some y =>
      simp only [Option.map_some, Option.bind_some]
      rw [fmS_map xs y.2]
      rfl
theorem lc_mapS {f : α → σ → Option (τ × σ)} (hb : ∀ x s, lcStep g t me vs (ec x) (E s) = (f x s).map fun z => (some (ed z.1), E z.2)) (xs : List α) (s : σ) : lcL g t me vs (xs.map ec) (E s) [] = (mapS f xs s).map fun z => (z.1.map ed, E z.2) := by
  rw [lc_fmS (f := fun x s => (f x s).map fun z => (some z.1, z.2)) (ed := ed), fmS_map]
  · simp
  · intro x s
    rw [hb, Option.map_map]
    rfl
variable {e : Sl}
theorem lc_fmO {f : α → Option (Option τ)} (hb : ∀ x, lcStep g t me vs (ec x) e = (f x).map fun z => (z.map ed, e)) : ∀ (xs : List α) (acc : List PyData), lcL g t me vs (xs.map ec) e acc = (fmO f xs).map fun z => (acc ++ z.map ed, e)
  | [], acc => by
    show some (acc, e) = some (acc ++ [], e)
    rw [List.append_nil]
  | x :: xs, acc => by
    rw [List.map_cons, lcL_step, hb]
    show _ = Option.map _ ((f x).bind _)
    cases f x with
    | none => rfl
    | some y =>
      simp only [Option.map_some, Option.bind_some]
      rw [lc_fmO hb xs]
      cases fmO f xs with
      | none => rfl
      | some z => cases y <;> simp
theorem fmO_map {f : α → Option τ} : ∀ (xs : List α), fmO (fun x => (f x).map some) xs = mapO f xs
  | [] => rfl
  | x :: xs => by
    show ((f x).map _).bind _ = (f x).bind _
    cases f x with
    | none => rfl
    | some y =>
      simp only [Option.map_some, Option.bind_some]
      rw [fmO_map xs]
      rfl
theorem lc_mapO {f : α → Option τ} (hb : ∀ x, lcStep g t me vs (ec x) e = (f x).map fun z => (some (ed z), e)) (xs : List α) : lcL g t me vs (xs.map ec) e [] = (mapO f xs).map fun z => (z.map ed, e) := by
  rw [lc_fmO (f := fun x => (f x).map some) (ed := ed), fmO_map]
  · simp
  · intro x
    rw [hb, Option.map_map]
    rfl
theorem fmO_filt {p : α → Bool} {f : α → τ} : ∀ (xs : List α), fmO (fun x => some (if p x = true then some (f x) else none)) xs = some ((xs.filter p).map f)
  | [] => rfl
  | x :: xs => by
    show (fmO _ xs).map _ = _
    rw [fmO_filt xs]
    cases h : p x <;> simp [h]
theorem mapO_map {f : α → τ} : ∀ (xs : List α), mapO (fun x => some (f x)) xs = some (xs.map f)
  | [] => rfl
  | x :: xs => by
    show (mapO _ xs).map _ = _
    rw [mapO_map xs]
    rfl
theorem lc_filt {p : α → Bool} {f : α → τ} (hb : ∀ x, lcStep g t me vs (ec x) e = some (if p x = true then some (ed (f x)) else none, e)) (xs : List α) : lcL g t me vs (xs.map ec) e [] = some (((xs.filter p).map f).map ed, e) := by
  rw [lc_fmO (f := fun x => some (if p x = true then some (f x) else none)) (ed := ed), fmO_filt]
  · simp
  · intro x
    rw [hb]
    cases p x <;> rfl
theorem lc_all {f : α → τ} (hb : ∀ x, lcStep g t me vs (ec x) e = some (some (ed (f x)), e)) (xs : List α) : lcL g t me vs (xs.map ec) e [] = some ((xs.map f).map ed, e) := by
  rw [lc_mapO (f := fun x => some (f x)) (ed := ed), mapO_map]
  · simp
  · intro x
    rw [hb]
    rfl
variable {K : Res → Sl → Option β} {mi : MI} {env e1 : Sl} {R : Option β}
def lcK (g : MG) (t : MT) (me : ME) (vs : List Nat) (ds : List PyData) (e : Sl) (K : Res → Sl → Option β) : Option β := if ds.length ≤ 100000 then bnd (lcL g t me vs ds (wipeS e vs) []) fun acc e => K (.new (.lst acc)) e else none
theorem c_lc (k : bnd (mi env) (fun ds e => lcK g t me vs ds e K) = R) : bnd (mLc mi g t me vs env) K = R := by
  rw [← k]; unfold mLc bnd lcK
  cases mi env with
  | none => rfl
  | some p =>
    simp only [Option.bind_some]
    split
    · unfold bnd
      cases lcL g t me vs p.1 (wipeS p.2 vs) [] <;> rfl
    · rfl
theorem c_lcK {xs : List α} {k : Unit → Option γ} {h : γ → Option β} (hw : wipeS e vs = e1) (p : bnd (lcL g t me vs (xs.map ec) e1 []) (fun acc e => K (.new (.lst acc)) e) = (k ()).bind h) : lcK g t me vs (xs.map ec) e K = ((gd (xs.length ≤ 100000)).bind k).bind h := by
  subst hw
  unfold lcK gd
  rw [List.length_map]
  split
  · exact p
  · rfl
/-- a turn's equation, from the target on -/
theorem c_elt {K : Option PyData → Sl → Option β} {d : PyData} (hw : wipeS e vs = e1) (k : K (some d) e1 = R) : bnd (lcElt vs (.dat d) e) K = R := by
  subst hw; exact k
theorem c_step {Y : Option (Option PyData × Sl)} {d : PyData} (k : (g d e).bind (fun e1 => bnd (t e1) fun c e2 => bnd (if c = true then bnd (me e2) (fun r e => bnd (frz (r, e)) fun r e => lcElt vs r e) else some (none, wipeS e2 vs)) fun x e => some (x, e)) = Y) : lcStep g t me vs d e = Y := k
theorem c_bb {x : Option (Res × Sl)} {K : Option PyData → Sl → Option β} (k : bnd x (fun r e => bnd (frz (r, e)) fun r e => bnd (lcElt vs r e) K) = R) : bnd (bnd x (fun r e => bnd (frz (r, e)) fun r e => lcElt vs r e)) K = R := by
  rw [← k]
  cases x with
  | none => rfl
  | some p =>
    simp only [bnd, Option.bind_some]
    cases frz (p.1, p.2) <;> rfl
theorem c_iteT {a b : Option (τ × Sl)} {K : τ → Sl → Option β} (k : bnd a K = R) : bnd (if true = true then a else b) K = R := k
/-- a total test with a total element -/
theorem c_stepF {p : Bool} {d : PyData} {a b : Option (Option PyData × Sl)} (h1 : a = some (some d, e)) (h2 : b = some (none, e)) : bnd (if p = true then a else b) (fun x e => some (x, e)) = some (if p = true then some d else none, e) := by
  subst h1 h2; cases p <;> rfl
/-! slices -/
variable {m : ME} {ml mh : MO}
def slK (g : PyData → Option Int → Option Int → Option Res) (r : Res) (lo hi : Option Int) (e : Sl) (K : Res → Sl → Option β) : Option β := (rdv e (stab r)).bind fun dx => (g dx lo hi).bind fun r => K r e
theorem c_sl {g : PyData → Option Int → Option Int → Option Res} (k : bnd (m env) (fun r e => bnd (ml e) fun lo e => bnd (mh e) fun hi e => slK g r lo hi e K) = R) : bnd (mSl g m ml mh env) K = R := by
  rw [← k]; unfold mSl bnd slK
  cases m env with
  | none => rfl
  | some p =>
    simp only [Option.bind_some]
    cases ml p.2 with
    | none => rfl
    | some a =>
      simp only [Option.bind_some]
      cases mh a.2 with
      | none => rfl
      | some b =>
        simp only [Option.bind_some]
        cases rdv b.2 (stab p.1) with
        | none => rfl
        | some dx =>
          simp only [Option.bind_some]
          cases g dx a.1 b.1 <;> rfl
theorem c_slK {g : PyData → Option Int → Option Int → Option Res} {r : Res} {lo hi : Option Int} (dx : PyData) (h : rdv e (stab r) = some dx) (k : (g dx lo hi).bind (fun r => K r e) = R) : slK g r lo hi e K = R := by
  unfold slK; rw [h]; exact k
theorem c_slScr {i : Nat} {ns : List Int} (h : env[i]? = some (.scr ns)) (k : bnd (ml env) (fun lo e => bnd (mh e) fun hi e => K (.new (.lst ((cutL ns lo hi).map eI))) e) = R) : bnd (mSlScr i ml mh env) K = R := by
  rw [← k]; unfold mSlScr bnd
  rw [h]
  simp only
  cases ml env with
  | none => rfl
  | some a =>
    simp only [Option.bind_some]
    cases mh a.2 with
    | none => rfl
    | some b =>
      simp only [Option.map_some, Option.bind_some]
      rw [show cutD (ns.map .int) a.1 b.1 = (cutL ns a.1 b.1).map eI by simp only [cutD, cutL, List.length_map, List.map_take, List.map_drop]]
section
variable {K : Option Int → Sl → Option β}
def partK (r : Res) (e : Sl) (K : Option Int → Sl → Option β) : Option β := match r with
  | .dat (.int i) => K (some i) e
  | _ => none
theorem c_part (k : bnd (m env) (fun r e => partK r e K) = R) : bnd (mPart m env) K = R := by
  rw [← k]; unfold mPart bnd
  cases m env with
  | none => rfl
  | some p =>
    cases p with
    | mk r e =>
      cases r with
      | dat d => cases d <;> rfl
      | _ => rfl
theorem c_partK {i : Int} (k : K (some i) e = R) : partK (.dat (.int i)) e K = R := k
theorem c_noPart (k : K none env = R) : bnd (mNoPart env) K = R := k
end
def revLK (r : Res) (e : Sl) (K : Res → Sl → Option β) : Option β := (rdv e (stab r)).bind fun d => match d with
  | .list ds => K (.new (.lst ds.reverse)) e
  | _ => none
theorem c_revL (k : bnd (m env) (fun r e => revLK r e K) = R) : bnd (mRevL m env) K = R := by
  rw [← k]; unfold mRevL bnd revLK
  cases m env with
  | none => rfl
  | some p =>
    simp only [Option.bind_some]
    cases rdv p.2 (stab p.1) with
    | none => rfl
    | some d => cases d <;> rfl
theorem c_revLK {r : Res} {l : List α} (h : rdv e (stab r) = some (.list (l.map ec))) (k : K (.new (.lst (l.reverse.map ec))) e = R) : revLK r e K = R := by
  unfold revLK; rw [h]
  show K (.new (.lst (l.map ec).reverse)) e = R
  rw [← List.map_reverse]; exact k
/-! a, b = .. -/
variable {ms : MA}
def putUK (is : List Nat) (rs : List Res) (e : Sl) (K : Fl → Sl → Option β) : Option β := (putsRes is rs e).bind fun e => K .nx e
theorem c_putU {is : List Nat} {K : Fl → Sl → Option β} (k : bnd (ms env) (fun rs e => putUK is rs e K) = R) : bnd (mPutU is ms env) K = R := by
  rw [← k]; unfold mPutU bnd putUK
  cases ms env with
  | none => rfl
  | some p =>
    simp only [Option.bind_some]
    cases putsRes is p.1 p.2 <;> rfl
theorem c_putUK {is : List Nat} {rs : List Res} {K : Fl → Sl → Option β} (e2 : Sl) (h : putsRes is rs e = some e2) (k : K .nx e2 = R) : putUK is rs e K = R := by
  unfold putUK; rw [h]; exact k
theorem c_consU {K : List Res → Sl → Option β} (k : bnd (m env) (fun r e => bnd (frzS (r, e)) fun r e => bnd (ms e) fun rs e' => K (r :: rs) e') = R) : bnd (mConsU m ms env) K = R := by
  rw [← k]; unfold mConsU mFrzS bnd
  cases m env with
  | none => rfl
  | some p =>
    simp only [Option.bind_some]
    cases frzS p with
    | none => rfl
    | some q =>
      simp only [Option.bind_some]
      cases ms q.2 <;> rfl
theorem c_frzSD {d : PyData} (k : K (.dat d) e = R) : bnd (frzS (.dat d, e)) K = R := k
theorem c_frzSN {c : Cell} (k : K (.new c) e = R) : bnd (frzS (.new c, e)) K = R := k
theorem c_frzSS {i : Nat} (k : bnd (frz (.slt i, e)) K = R) : bnd (frzS (.slt i, e)) K = R := k
end
/-! ### a def's whole -/
theorem c_fm {τ : Type} {np n : Nat} {mb : MS} {ins : Sl} {Y : Option τ} {oR : τ → Res} {eR : τ → Sl} {out : τ → Res × Sl} (env : Sl) (h1 : ins.length = np) (h2 : ins ++ List.replicate (n - np) .no = env)
    (k : bnd (mb env) (fun f e => some (f, e)) = Y.bind fun z => some (.rt (oR z), eR z)) (h3 : ∀ z, finR (.rt (oR z), eR z) = some (out z).1) (h4 : ∀ z, ioKept ins (eR z) = true) (h5 : ∀ z, (eR z).take np = (out z).2) : fmOf np n mb ins = Y.map out := by
  have hk : mb env = Y.map fun z => (Fl.rt (oR z), eR z) := c_map k
  unfold fmOf
  rw [if_pos h1, h2, hk]
  cases Y with
  | none => rfl
  | some z =>
    simp only [Option.map_some, Option.bind_some, h3, h4, if_true, h5]
/-! ### the same with a name for the value -/
section
variable {β γ τ : Type} {e e2 : Sl} {i : Nat} {k : τ → Option γ} {h : γ → Option β}
theorem c_setDL {K : Fl → Sl → Option β} (enc : τ → PyData) (v : τ) (E : τ → Sl) (hs : ∀ x, e.set i (.val (enc x)) = E x) (p : ∀ x, K .nx (E x) = (k x).bind h) : setK i (.dat (enc v)) e K = ((some v).bind k).bind h := by
  show K .nx (e.set i (.val (enc v))) = _
  rw [hs]; exact p v
theorem c_setNL {τ : Type} {k : List τ → Option γ} {K : Fl → Sl → Option β} (enc : τ → PyData) (v : List τ) (E : List τ → Sl) (hs : ∀ x, e.set i (.own (.lst (x.map enc))) = E x) (p : ∀ x, K .nx (E x) = (k x).bind h) : setK i (.new (.lst (v.map enc))) e K = ((some v).bind k).bind h := by
  show K .nx (e.set i (.own (.lst (v.map enc)))) = _
  rw [hs]; exact p v
theorem c_augL {K : Fl → Sl → Option β} {k : Int → Option γ} {x y : Int} {f : Int → Int → Int} (E : Int → Sl) (hs : ∀ z, e.set i (.val (.int z)) = E z) (p : ∀ z, K .nx (E z) = (k z).bind h) : augK i x f (.dat (.int y)) e K = ((some (f x y)).bind k).bind h := by
  show K .nx (e.set i (.val (.int (f x y)))) = _
  rw [hs]; exact p _
theorem c_mutP {K : Res → Sl → Option β} {f : List PyData → List PyData → Option (List PyData × PyData)} {s : Slot} {rs : List Res} {Y : Option τ} {o : τ → List PyData × PyData} (es ds : List PyData) (E : τ → Sl) (h1 : dats rs = some es) (h2 : lstAt e i = some (s, ds)) (q : f ds es = Y.map o) (hE : ∀ z, e.set i (s.put (.lst (o z).1)) = E z) (p : ∀ z, K (.dat (o z).2) (E z) = (k z).bind h) : mutK i f rs e K = (Y.bind k).bind h := by
  unfold mutK; rw [h1, h2]
  simp only [Option.bind_some, q]
  cases Y with
  | none => rfl
  | some z =>
    show K (.dat (o z).2) (e.set i (s.put (.lst (o z).1))) = _
    rw [hE]; exact p z
theorem c_gsubP {α : Type} {K : Sl → Option β} {k : List α → Option γ} (ec : α → PyData) (l : List α) (x : α) {z : Int} {s : Slot} (E : List α → Sl) (h1 : lstAt e i = some (s, l.map ec)) (hE : ∀ l', e.set i (s.put (.lst (l'.map ec))) = E l') (p : ∀ l', K (E l') = (k l').bind h) : subK i (ec x) (.dat (.int z)) e K = ((pSet l z x).bind k).bind h :=
  c_gsubK h1 fun l' => by rw [hE]; exact p l'
theorem c_nm {L : Option β} {v : τ} (p : ∀ x, x = v → L = (k x).bind h) : L = ((some v).bind k).bind h := p v rfl
end
def maxI (i j : Int) : Int := if j > i then j else i
def minI (i j : Int) : Int := if j < i then j else i
def absI (i : Int) : Int := if i < 0 then -i else i
theorem x_eqI0 {a b : Int} : gEq false (.int a) (.int b) = some (.dat (.bool (decide (a = b)))) := by rw [x_eqI, Bool.false_xor]
theorem x_eqI1 {a b : Int} : gEq true (.int a) (.int b) = some (.dat (.bool (!decide (a = b)))) := by rw [x_eqI, Bool.true_xor]
theorem x_eqS0 {a b : Str} : gEq false (.str a) (.str b) = some (.dat (.bool (decide (a = b)))) := by rw [x_eqS, Bool.false_xor]
theorem x_eqS1 {a b : Str} : gEq true (.str a) (.str b) = some (.dat (.bool (!decide (a = b)))) := by rw [x_eqS, Bool.true_xor]
theorem x_eqB0 {a b : Bool} : gEq false (.bool a) (.bool b) = some (.dat (.bool (decide (a = b)))) := by rw [x_eqB, Bool.false_xor]
theorem x_eqB1 {a b : Bool} : gEq true (.bool a) (.bool b) = some (.dat (.bool (!decide (a = b)))) := by rw [x_eqB, Bool.true_xor]
theorem x_eqLI0 {a b : List Int} : gEq false (.list (a.map .int)) (.list (b.map .int)) = some (.dat (.bool (decide (a = b)))) := by rw [x_eqLI, Bool.false_xor]
theorem x_eqLI1 {a b : List Int} : gEq true (.list (a.map .int)) (.list (b.map .int)) = some (.dat (.bool (!decide (a = b)))) := by rw [x_eqLI, Bool.true_xor]
theorem c_stepM {α τ : Type} {g : MG} {t : MT} {me : ME} {vs : List Nat} {e : Sl} {d : PyData} {Y : Option τ} {out : τ → Option PyData × Sl} (k : (g d e).bind (fun e1 => bnd (t e1) fun c e2 => bnd (if c = true then bnd (me e2) (fun r e => bnd (frz (r, e)) fun r e => lcElt vs r e) else some (none, wipeS e2 vs)) fun x e => some (x, e)) = Y.bind fun z => some (out z)) : lcStep g t me vs d e = Y.map out := by
  have h : lcStep g t me vs d e = Y.bind fun z => some (out z) := k
  rw [h]; cases Y <;> rfl
theorem c_chainT {β : Type} {K : Res → Sl → Option β} {R : Option β} {g' : PyData → PyData → Option Res} {mc : ME} {e : Sl} {r2 : Res} {dy dz : PyData} {b c : Bool} (h3 : mc e = some (.dat dz, e)) (h4 : rdv e (stab r2) = some dy) (h6 : g' dy dz = some (.dat (.bool c))) (k : K (.dat (.bool (b && c))) e = R) : bnd (if b = true then (mc e).bind (fun t => (rdv t.2 (stab r2)).bind fun dy => (rdv t.2 (stab t.1)).bind fun dz => (g' dy dz).map fun r => (r, t.2)) else some (.dat (.bool false), e)) K = R := by
  have hz : rdv e (stab (.dat dz)) = some dz := rfl
  cases b
  · exact k
  · simp only [if_true, h3, Option.bind_some, h4, hz, h6, Option.map_some]
    exact k
theorem lc_filtI {α : Type} {g : MG} {t : MT} {me : ME} {vs : List Nat} {ec : α → PyData} {ed : α → PyData} {e : Sl} {p : α → Bool} (hb : ∀ x, lcStep g t me vs (ec x) e = some (if p x = true then some (ed x) else none, e)) (xs : List α) : lcL g t me vs (xs.map ec) e [] = some ((xs.filter p).map ed, e) := by
  have := lc_filt (f := id) (ed := ed) hb xs
  rw [this, List.map_id]
theorem x_revM' {α : Type} {e : α → PyData} {l : List α} : fRev (l.map e) [] = (some l.reverse).map (fun l => (l.map e, .none)) := x_revM
theorem c_seqB {β : Type} {K : Fl → Sl → Option β} {R : Option β} {b : MS} {e : Sl} (k : K .bk e = R) : seqK b .bk e K = R := k
def pMinL (l : List Int) : Option Int := leastI l
theorem x_minL {l : List Int} : gMinL [.list (l.map .int)] = (pMinL l).map (fun z => .dat (.int z)) := by
  simp only [gMinL, intsD_map, pMinL]; rfl
theorem x_count {l : List Int} {k : Int} : gCount (.list (l.map .int)) [.int k] = some (.dat (.int (l.count k : Int))) := by
  simp only [gCount, intsD_map]; rfl
section
variable {β γ : Type} {env e : Sl} {R : Option β} {m : ME} {ms : MA} {K : Res → Sl → Option β}
def pLR1 (n : Int) : Option (List Int) := if 0 ≤ n ∧ n ≤ 100000 then some (rangeI n) else none
def lr1K (r : Res) (e : Sl) (K : Res → Sl → Option β) : Option β := (rdv e (stab r)).bind fun d => match d with
  | .int n => (pLR1 n).bind fun l => K (.new (.lst (l.map eI))) e
  | _ => none
theorem c_lr1 (k : bnd (m env) (fun r e => lr1K r e K) = R) : bnd (mLR1 m env) K = R := by
  rw [← k]; unfold mLR1 bnd lr1K
  cases m env with
  | none => rfl
  | some p =>
    simp only [Option.bind_some]
    cases rdv p.2 (stab p.1) with
    | none => rfl
    | some d =>
      cases d with
      | int n =>
        simp only [Option.bind_some, pLR1]
        split
        · simp [rangeI, Function.comp_def]
        · rfl
      | _ => rfl
theorem c_lr1K {j : Int} {r : Res} {k : List Int → Option γ} {h : γ → Option β} (h1 : rdv e (stab r) = some (.int j)) (p : ∀ l, K (.new (.lst (l.map eI))) e = (k l).bind h) : lr1K r e K = ((pLR1 j).bind k).bind h := by
  unfold lr1K; rw [h1]
  show ((pLR1 j).bind fun l => K (.new (.lst (l.map eI))) e) = _
  cases pLR1 j with
  | none => rfl
  | some l => exact p l
def pLR3 (i j c : Int) : Option (List Int) := if ((c ≠ 0 ∧ c.natAbs < 1073741824) ∧ Builtin.Range.small i j c = true) ∧ (Builtin.Range.rangeSize i j c).toNat ≤ 100000 then some ((List.range (Builtin.Range.rangeSize i j c).toNat).map fun k : Nat => i + (k : Int) * c) else none
def lr3K (rs : List Res) (e : Sl) (K : Res → Sl → Option β) : Option β := (rdAll e rs).bind fun ds => match ds with
  | [.int i, .int j, .int c] => (pLR3 i j c).bind fun l => K (.new (.lst (l.map eI))) e
  | _ => none
theorem c_lr3 (k : bnd (ms env) (fun rs e => lr3K rs e K) = R) : bnd (mLR3 ms env) K = R := by
  rw [← k]; unfold mLR3 bnd lr3K
  cases ms env with
  | none => rfl
  | some p =>
    simp only [Option.bind_some]
    cases rdAll p.2 p.1 with
    | none => rfl
    | some ds =>
      simp only [Option.bind_some]
      rcases ds with _ | ⟨d1, _ | ⟨d2, _ | ⟨d3, _ | ⟨d4, ds⟩⟩⟩⟩
      · rfl
      · cases d1 <;> rfl
      · cases d1 <;> first | rfl | (cases d2 <;> rfl)
      · cases d1 with
        | int i =>
          cases d2 with
          | int j =>
            cases d3 with
            | int c =>
              simp only [pLR3]
              split
              · simp [Function.comp_def]
              · rfl
            | _ => rfl
          | _ => rfl
        | _ => rfl
      · cases d1 <;> first | rfl | (cases d2 <;> first | rfl | (cases d3 <;> rfl))
theorem c_lr3K {i j c : Int} {rs : List Res} {k : List Int → Option γ} {h : γ → Option β} (h1 : rdAll e rs = some [.int i, .int j, .int c]) (p : ∀ l, K (.new (.lst (l.map eI))) e = (k l).bind h) : lr3K rs e K = ((pLR3 i j c).bind k).bind h := by
  unfold lr3K; rw [h1]
  show ((pLR3 i j c).bind fun l => K (.new (.lst (l.map eI))) e) = _
  cases pLR3 i j c with
  | none => rfl
  | some l => exact p l
end
theorem inD_int (x : Int) (l : List Int) : inD (.int x) (l.map .int) = decide (x ∈ l) := by
  unfold inD inV
  induction l with
  | nil => rfl
  | cons y l ih =>
    rw [List.map_cons, List.map_cons, List.any_cons, ih]
    have : eqV (vOf (.int y)) (vOf (.int x)) = decide (y = x) := rfl
    rw [this]
    by_cases h : y = x
    · simp [h]
    · have h2 : ¬ x = y := fun z => h z.symm
      simp [h, h2, List.mem_cons]
theorem inD_str (x : Str) (l : List Str) : inD (.str x) (l.map .str) = decide (x ∈ l) := by
  unfold inD inV
  induction l with
  | nil => rfl
  | cons y l ih =>
    rw [List.map_cons, List.map_cons, List.any_cons, ih]
    have : eqV (vOf (.str y)) (vOf (.str x)) = decide (y = x) := rfl
    rw [this]
    by_cases h : y = x
    · simp [h]
    · have h2 : ¬ x = y := fun z => h z.symm
      simp [h, h2, List.mem_cons]
theorem x_inI0 {x : Int} {l : List Int} : gIn false (.int x) (.list (l.map .int)) = some (.dat (.bool (decide (x ∈ l)))) := by
  have h : (l.map PyData.int).all flatD = true := by simp [flatD]
  simp only [gIn, flatD, if_true, h, inD_int, Bool.false_xor]
theorem x_inI1 {x : Int} {l : List Int} : gIn true (.int x) (.list (l.map .int)) = some (.dat (.bool (!decide (x ∈ l)))) := by
  have h : (l.map PyData.int).all flatD = true := by simp [flatD]
  simp only [gIn, flatD, if_true, h, inD_int, Bool.true_xor]
theorem x_inS0 {x : Str} {l : List Str} : gIn false (.str x) (.list (l.map .str)) = some (.dat (.bool (decide (x ∈ l)))) := by
  have h : (l.map PyData.str).all flatD = true := by simp [flatD]
  simp only [gIn, flatD, if_true, h, inD_str, Bool.false_xor]
theorem x_inS1 {x : Str} {l : List Str} : gIn true (.str x) (.list (l.map .str)) = some (.dat (.bool (!decide (x ∈ l)))) := by
  have h : (l.map PyData.str).all flatD = true := by simp [flatD]
  simp only [gIn, flatD, if_true, h, inD_str, Bool.true_xor]
theorem x_inIV0 {x : Int} {l : List Int} : gIn false (.int x) (.tuple (l.map .int)) = some (.dat (.bool (decide (x ∈ l)))) := by
  have h : (l.map PyData.int).all flatD = true := by simp [flatD]
  simp only [gIn, flatD, if_true, h, inD_int, Bool.false_xor]
theorem x_inSV0 {x : Str} {l : List Str} : gIn false (.str x) (.tuple (l.map .str)) = some (.dat (.bool (decide (x ∈ l)))) := by
  have h : (l.map PyData.str).all flatD = true := by simp [flatD]
  simp only [gIn, flatD, if_true, h, inD_str, Bool.false_xor]
theorem x_inSV1 {x : Str} {l : List Str} : gIn true (.str x) (.tuple (l.map .str)) = some (.dat (.bool (!decide (x ∈ l)))) := by
  have h : (l.map PyData.str).all flatD = true := by simp [flatD]
  simp only [gIn, flatD, if_true, h, inD_str, Bool.true_xor]
theorem flat_map {α : Type} {e : α → PyData} (h : ∀ x, flatD (e x) = true) (l : List α) : (l.map e).all flatD = true := by
  simp [h]
end Cm
namespace Cm
open PySem L2
/-! ### what plain functions come to -/
section
variable {α β γ ρ σ τ : Type}
def Wp (x : Option α) (Q : α → Prop) : Prop := ∃ a, x = some a ∧ Q a
theorem wp_eq {x : Option α} {a : α} {Q : α → Prop} (h : x = some a) (q : Q a) : Wp x Q := ⟨a, h, q⟩
theorem wp_some {a : α} {Q : α → Prop} (q : Q a) : Wp (some a) Q := ⟨a, rfl, q⟩
theorem wp_mono {x : Option α} {Q Q' : α → Prop} (h : Wp x Q) (k : ∀ a, Q a → Q' a) : Wp x Q' := let ⟨a, e, q⟩ := h; ⟨a, e, k a q⟩
theorem wp_bind {x : Option α} {f : α → Option β} {R : α → Prop} {Q : β → Prop} (h : Wp x R) (k : ∀ a, R a → Wp (f a) Q) : Wp (x.bind f) Q := by
  obtain ⟨a, rfl, q⟩ := h
  exact k a q
theorem wp_let {v : α} {f : α → Option β} {Q : β → Prop} (k : Wp (f v) Q) : Wp ((some v).bind f) Q := k
theorem wp_be {x : Option α} {v : α} {f : α → Option β} {Q : β → Prop} (h : x = some v) (k : Wp (f v) Q) : Wp (x.bind f) Q := by
  subst h; exact k
theorem wp_if {c : Bool} {a b : Option α} {Q : α → Prop} (h1 : c = true → Wp a Q) (h2 : c = false → Wp b Q) : Wp (if c = true then a else b) Q := by
  cases c
  · exact h2 rfl
  · exact h1 rfl
theorem wp_ifd {p : Prop} [Decidable p] {a b : Option α} {Q : α → Prop} (h1 : p → Wp a Q) (h2 : ¬ p → Wp b Q) : Wp (if decide p = true then a else b) Q := by
  by_cases h : p
  · simpa [h] using h1 h
  · simpa [h] using h2 h
theorem wp_t {c : Bool} {a b : Option α} {Q : α → Prop} (h : c = true) (k : Wp a Q) : Wp (if c = true then a else b) Q := by
  rw [if_pos h]; exact k
theorem wp_f {c : Bool} {a b : Option α} {Q : α → Prop} (h : c = false) (k : Wp b Q) : Wp (if c = true then a else b) Q := by
  rw [h]; exact k
theorem wp_gd {p : Prop} [Decidable p] {Q : Unit → Prop} (h : p) (q : Q ()) : Wp (gd p) Q := ⟨(), if_pos h, q⟩
theorem gd_eq {p : Prop} [Decidable p] (h : p) : gd p = some () := if_pos h
/-! numbers -/
theorem mul_eq {i j : Int} (h : (-(2 ^ 64) < i ∧ i < 2 ^ 64) ∨ (-(2 ^ 64) < j ∧ j < 2 ^ 64)) : pMul i j = some (i * j) := if_pos h
theorem div_eq {i j : Int} (h : 0 < j ∧ j < 1073741824) : pDiv i j = some (i / j) := if_pos h
theorem mod_eq {i j : Int} (h : 0 < j) : pMod i j = some (i % j) := if_pos h
theorem mod_wp {i j : Int} {Q : Int → Prop} (h : 0 < j) (q : 0 ≤ i % j → i % j < j → Q (i % j)) : Wp (pMod i j) Q := ⟨_, if_pos h, q (Int.emod_nonneg _ (by omega)) (Int.emod_lt_of_pos _ h)⟩
theorem absI_nn (i : Int) : 0 ≤ absI i := by unfold absI; split <;> omega
theorem maxI_eq (i j : Int) : maxI i j = max i j := by unfold maxI; split <;> omega
theorem minI_eq (i j : Int) : minI i j = min i j := by unfold minI; split <;> omega
/-! items -/
theorem ix_eq {l : List α} {i : Int} {z : α} (h0 : 0 ≤ i) (h : l[i.toNat]? = some z) : pIx l i = some z := by
  have hl := (List.getElem?_eq_some_iff.mp h).1
  unfold pIx atI ixN
  rw [if_pos h0, if_pos (by omega)]
  exact h
theorem ix_nat {l : List α} {k : Nat} {z : α} (h : l[k]? = some z) : pIx l (k : Int) = some z := ix_eq (by omega) (by simpa using h)
theorem ix_wp {l : List α} {i : Int} (h0 : 0 ≤ i) (h1 : i < (l.length : Int)) : Wp (pIx l i) fun z => l[i.toNat]? = some z ∧ z ∈ l := by
  have hl : i.toNat < l.length := by omega
  have h : l[i.toNat]? = some l[i.toNat] := List.getElem?_eq_getElem hl
  exact ⟨_, ix_eq h0 h, h, List.getElem_mem hl⟩
theorem ix_last {l : List α} {z : α} : pIx (l ++ [z]) (-1) = some z := by
  unfold pIx atI ixN
  rw [if_neg (by omega), if_pos (by simp; omega), List.length_append]
  simp
  have : (-1 + ((l.length : Int) + 1)).toNat = l.length := by omega
  rw [this]
  simp
theorem ix_last_eq {l : List α} {z : α} (h : l.getLast? = some z) : pIx l (-1) = some z := by
  obtain ⟨ys, rfl⟩ := List.getLast?_eq_some_iff.mp h
  exact ix_last
theorem ix_zero {l : List α} {z : α} : pIx (z :: l) 0 = some z := ix_eq (by omega) rfl
theorem ix_menu {l : List α} {i : Int} (h0 : 0 ≤ i) (h1 : i < (l.length : Int)) : Wp (pIx l i) fun z => z ∈ l := wp_mono (ix_wp h0 h1) fun _ h => h.2
theorem set_eq {l : List α} {i : Int} {x : α} (h0 : 0 ≤ i) (h1 : i < (l.length : Int)) : pSet l i x = some (l.set i.toNat x) := by
  unfold pSet ixN
  rw [if_pos h0, if_pos h1]
  rfl
theorem set_nat {l : List α} {k : Nat} {x : α} (h1 : k < l.length) : pSet l (k : Int) x = some (l.set k x) := by
  have := set_eq (l := l) (i := (k : Int)) (x := x) (by omega) (by omega)
  simpa using this
theorem app_eq {l : List α} {x : α} (h : l.length < 100000) : pApp l x = some (l ++ [x]) := if_pos h
theorem cat_eq {l l' : List α} (h : l.length + l'.length ≤ 100000) : pCat l l' = some (l ++ l') := if_pos h
theorem rep_eq {l : List α} {k : Int} (h : -(2 ^ 63) ≤ k ∧ k < 2 ^ 63 ∧ l.length * k.toNat ≤ 100000) : pRep l k = some (repL l k) := if_pos h
theorem repL_one {x : α} {k : Int} : repL [x] k = List.replicate k.toNat x := by
  unfold repL
  induction k.toNat with
  | zero => rfl
  | succ n ih => rw [List.replicate_succ, List.flatten_cons, ih, List.replicate_succ]; rfl
theorem rng_eq {n : Int} (h : -(2 ^ 62) ≤ n ∧ n < 2 ^ 62) : pRng n = some (rangeI n) := if_pos h
theorem rng2_eq {i j : Int} (h : (-(2 ^ 62) ≤ i ∧ i < 2 ^ 62) ∧ -(2 ^ 62) ≤ j ∧ j < 2 ^ 62) : pRng2 i j = some (rangeJ i j) := if_pos h
theorem lr1_eq {n : Int} (h : 0 ≤ n ∧ n ≤ 100000) : pLR1 n = some (rangeI n) := if_pos h
theorem rangeI_len (n : Int) : (rangeI n).length = n.toNat := by simp [rangeI]
theorem rangeI_get {n : Int} {j : Nat} {x : Int} (h : (rangeI n)[j]? = some x) : x = (j : Int) ∧ (j : Int) < n := by
  unfold rangeI at h
  rw [List.getElem?_map] at h
  obtain ⟨k, hk, rfl⟩ := Option.map_eq_some_iff.mp h
  obtain ⟨h1, h2⟩ := List.getElem?_eq_some_iff.mp hk
  rw [List.getElem_range] at h2
  rw [List.length_range] at h1
  subst h2
  exact ⟨rfl, by omega⟩
theorem rangeI_mem {n x : Int} (h : x ∈ rangeI n) : 0 ≤ x ∧ x < n := by
  unfold rangeI at h
  obtain ⟨k, hk, rfl⟩ := List.mem_map.mp h
  have := List.mem_range.mp hk
  omega
theorem rangeJ_len (i j : Int) : (rangeJ i j).length = (j - i).toNat := by simp [rangeJ]
theorem rangeJ_get {i j : Int} {k : Nat} {x : Int} (h : (rangeJ i j)[k]? = some x) : x = i + (k : Int) ∧ x < j := by
  unfold rangeJ at h
  rw [List.getElem?_map] at h
  obtain ⟨q, hk, rfl⟩ := Option.map_eq_some_iff.mp h
  obtain ⟨h1, h2⟩ := List.getElem?_eq_some_iff.mp hk
  rw [List.getElem_range] at h2
  rw [List.length_range] at h1
  subst h2
  exact ⟨rfl, by omega⟩
theorem enumI_len : ∀ (n : Nat) (l : List α), (enumI n l).length = l.length
  | _, [] => rfl
  | n, x :: l => by
    show (enumI (n + 1) l).length + 1 = _
    rw [enumI_len (n + 1) l]; rfl
theorem enumI_get : ∀ {l : List α} {n j : Nat} {x : Int × α}, (enumI n l)[j]? = some x → x.1 = ((n + j : Nat) : Int) ∧ l[j]? = some x.2
  | [], _, _, _, h => by simp [enumI] at h
  | a :: l, n, 0, x, h => by
    simp [enumI] at h
    subst h
    exact ⟨by simp, rfl⟩
  | a :: l, n, j + 1, x, h => by
    have h2 : (enumI (n + 1) l)[j]? = some x := by simpa [enumI] using h
    obtain ⟨h3, h4⟩ := enumI_get h2
    exact ⟨by rw [h3]; omega, by simpa using h4⟩
/-! loops -/
theorem wp_for {body : α → σ → Option σ} (I : Nat → σ → Prop) : ∀ {xs : List α} {s : σ} {n : Nat}, I n s → (∀ (j : Nat) x s, xs[j]? = some x → I (n + j) s → Wp (body x s) (I (n + j + 1))) → Wp (forP body xs s) (I (n + xs.length))
  | [], s, n, h0, _ => ⟨s, rfl, h0⟩
  | x :: xs, s, n, h0, hb => by
    refine wp_bind (hb 0 x s rfl h0) fun s' h' => ?_
    have := wp_for (body := body) I (xs := xs) (s := s') (n := n + 1) h' fun j y s hy hi => by
      have h1 := hb (j + 1) y s (by simpa using hy) (by rw [show n + (j + 1) = n + 1 + j by omega]; exact hi)
      rw [show n + (j + 1) + 1 = n + 1 + j + 1 by omega] at h1
      exact h1
    rw [List.length_cons, show n + (xs.length + 1) = n + 1 + xs.length by omega]
    exact this
/-- a loop's word: what holds behind so many turns -/
theorem wp_loop {body : α → σ → Option σ} {xs : List α} {s : σ} (I : Nat → σ → Prop) (h0 : I 0 s) (hb : ∀ (j : Nat) x s, xs[j]? = some x → I j s → Wp (body x s) (I (j + 1))) : Wp (forP body xs s) (I xs.length) := by
  have := wp_for (body := body) I (xs := xs) (s := s) (n := 0) h0 fun j x s hx hi => by
    rw [Nat.zero_add] at hi ⊢
    exact hb j x s hx hi
  rwa [Nat.zero_add] at this
/-- a loop that is never left -/
theorem wp_forR {body : α → σ → Option (Fw ρ σ)} (I : Nat → σ → Prop) : ∀ {xs : List α} {s : σ} {n : Nat}, I n s → (∀ (j : Nat) x s, xs[j]? = some x → I (n + j) s → Wp (body x s) fun w => ∃ s', w = .nx s' ∧ I (n + j + 1) s') → Wp (forR body xs s) fun w => ∃ s', w = .nx s' ∧ I (n + xs.length) s'
  | [], s, n, h0, _ => ⟨.nx s, rfl, s, rfl, h0⟩
  | x :: xs, s, n, h0, hb => by
    refine wp_bind (hb 0 x s rfl h0) fun w hw => ?_
    obtain ⟨s', rfl, h'⟩ := hw
    have := wp_forR (body := body) I (xs := xs) (s := s') (n := n + 1) h' fun j y s hy hi => by
      have h1 := hb (j + 1) y s (by simpa using hy) (by rw [show n + (j + 1) = n + 1 + j by omega]; exact hi)
      rw [show n + (j + 1) + 1 = n + 1 + j + 1 by omega] at h1
      exact h1
    rw [List.length_cons, show n + (xs.length + 1) = n + 1 + xs.length by omega]
    exact this
theorem wp_loopR {body : α → σ → Option (Fw ρ σ)} {xs : List α} {s : σ} (I : Nat → σ → Prop) (h0 : I 0 s) (hb : ∀ (j : Nat) x s, xs[j]? = some x → I j s → Wp (body x s) fun w => ∃ s', w = .nx s' ∧ I (j + 1) s') : Wp (forR body xs s) fun w => ∃ s', w = .nx s' ∧ I xs.length s' := by
  have := wp_forR (body := body) I (xs := xs) (s := s) (n := 0) h0 fun j x s hx hi => by
    rw [Nat.zero_add] at hi ⊢
    exact hb j x s hx hi
  rwa [Nat.zero_add] at this
/-- a loop that may be left -/
theorem wp_forE {body : α → σ → Option (Fw ρ σ)} (I : Nat → σ → Prop) (J : ρ → Prop) : ∀ {xs : List α} {s : σ} {n : Nat}, I n s → (∀ (j : Nat) x s, xs[j]? = some x → I (n + j) s → Wp (body x s) fun w => (∃ s', w = .nx s' ∧ I (n + j + 1) s') ∨ ∃ r, w = .rt r ∧ J r) → Wp (forR body xs s) fun w => (∃ s', w = .nx s' ∧ I (n + xs.length) s') ∨ ∃ r, w = .rt r ∧ J r
  | [], s, n, h0, _ => ⟨.nx s, rfl, .inl ⟨s, rfl, h0⟩⟩
  | x :: xs, s, n, h0, hb => by
    refine wp_bind (hb 0 x s rfl h0) fun w hw => ?_
    rcases hw with ⟨s', rfl, h'⟩ | ⟨r, rfl, h'⟩
    · have := wp_forE (body := body) I J (xs := xs) (s := s') (n := n + 1) h' fun j y s hy hi => by
        have h1 := hb (j + 1) y s (by simpa using hy) (by rw [show n + (j + 1) = n + 1 + j by omega]; exact hi)
        rw [show n + (j + 1) + 1 = n + 1 + j + 1 by omega] at h1
        exact h1
      rw [List.length_cons, show n + (xs.length + 1) = n + 1 + xs.length by omega]
      exact this
    · exact ⟨.rt r, rfl, .inr ⟨r, rfl, h'⟩⟩
theorem wp_loopE {body : α → σ → Option (Fw ρ σ)} {xs : List α} {s : σ} (I : Nat → σ → Prop) (J : ρ → Prop) (h0 : I 0 s) (hb : ∀ (j : Nat) x s, xs[j]? = some x → I j s → Wp (body x s) fun w => (∃ s', w = .nx s' ∧ I (j + 1) s') ∨ ∃ r, w = .rt r ∧ J r) : Wp (forR body xs s) fun w => (∃ s', w = .nx s' ∧ I xs.length s') ∨ ∃ r, w = .rt r ∧ J r := by
  have := wp_forE (body := body) I J (xs := xs) (s := s) (n := 0) h0 fun j x s hx hi => by
    rw [Nat.zero_add] at hi ⊢
    exact hb j x s hx hi
  rwa [Nat.zero_add] at this
/-- a while with a measure -/
theorem wp_while {t : σ → Option Bool} {body : σ → Option σ} (I : σ → Prop) (meas : σ → Nat) (Q : σ → Prop) (hd : ∀ s, I s → Wp (t s) fun c => (c = false → Q s) ∧ (c = true → Wp (body s) fun s' => I s' ∧ meas s' < meas s)) : ∀ (n : Nat) (s : σ), meas s < n → I s → Wp (whP t body n s) Q
  | 0, s, h, _ => by omega
  | n + 1, s, h, hi => by
    show Wp ((t s).bind _) Q
    refine wp_bind (hd s hi) fun c hc => ?_
    cases c with
    | false => exact wp_some (hc.1 rfl)
    | true => exact wp_bind (hc.2 rfl) fun s' ⟨h1, h2⟩ => wp_while I meas Q hd n s' (by omega) h1
theorem for_eq {body : α → σ → Option σ} (f : σ → α → σ) : ∀ (xs : List α) (s : σ), (∀ x ∈ xs, ∀ s, body x s = some (f s x)) → forP body xs s = some (xs.foldl f s)
  | [], s, _ => rfl
  | x :: xs, s, h => by
    show (body x s).bind _ = _
    rw [h x List.mem_cons_self s, Option.bind_some, for_eq f xs _ fun y hy => h y (List.mem_cons_of_mem _ hy)]
    rfl
theorem mapO_eq {f : α → Option τ} {g : α → τ} : ∀ {xs : List α}, (∀ x ∈ xs, f x = some (g x)) → mapO f xs = some (xs.map g)
  | [], _ => rfl
  | x :: xs, h => by
    show (f x).bind _ = _
    rw [h x List.mem_cons_self, Option.bind_some, mapO_eq fun y hy => h y (List.mem_cons_of_mem _ hy)]
    rfl
theorem fmO_eq {f : α → Option (Option τ)} {g : α → Option τ} : ∀ {xs : List α}, (∀ x ∈ xs, f x = some (g x)) → fmO f xs = some (xs.filterMap g)
  | [], _ => rfl
  | x :: xs, h => by
    show (f x).bind _ = _
    rw [h x List.mem_cons_self, Option.bind_some, fmO_eq fun y hy => h y (List.mem_cons_of_mem _ hy)]
    cases hg : g x <;> simp [hg]
theorem fmO_if {f : α → Option (Option τ)} {p : α → Bool} {g : α → τ} : ∀ {xs : List α}, (∀ x ∈ xs, f x = some (if p x = true then some (g x) else none)) → fmO f xs = some ((xs.filter p).map g)
  | [], _ => rfl
  | x :: xs, h => by
    show (f x).bind _ = _
    rw [h x List.mem_cons_self, Option.bind_some, fmO_if fun y hy => h y (List.mem_cons_of_mem _ hy)]
    cases hp : p x <;> simp [hp]
theorem mapO_wp {f : α → Option τ} (Q : τ → Prop) : ∀ {xs : List α}, (∀ x ∈ xs, Wp (f x) Q) → Wp (mapO f xs) fun ys => ys.length = xs.length ∧ ∀ y ∈ ys, Q y
  | [], _ => ⟨[], rfl, rfl, by simp⟩
  | x :: xs, h => by
    obtain ⟨y, e, q⟩ := h x List.mem_cons_self
    obtain ⟨ys, e2, q1, q2⟩ := mapO_wp Q fun z hz => h z (List.mem_cons_of_mem _ hz)
    refine ⟨y :: ys, ?_, by simp [q1], ?_⟩
    · show (f x).bind _ = _
      rw [e, Option.bind_some, e2]; rfl
    · intro z hz
      rcases List.mem_cons.mp hz with rfl | hz
      · exact q
      · exact q2 z hz
theorem mapS_wp {f : α → σ → Option (τ × σ)} (Q : τ → Prop) (I : Nat → σ → Prop) : ∀ {xs : List α} {s : σ} {n : Nat}, I n s → (∀ (j : Nat) x s, xs[j]? = some x → I (n + j) s → Wp (f x s) fun r => Q r.1 ∧ I (n + j + 1) r.2) → Wp (mapS f xs s) fun r => r.1.length = xs.length ∧ (∀ y ∈ r.1, Q y) ∧ I (n + xs.length) r.2
  | [], s, n, h0, _ => ⟨([], s), rfl, rfl, by simp, h0⟩
  | x :: xs, s, n, h0, hb => by
    obtain ⟨r, e, q1, q2⟩ := hb 0 x s rfl h0
    obtain ⟨rs, e2, g1, g2, g3⟩ := mapS_wp (f := f) Q I (xs := xs) (s := r.2) (n := n + 1) q2 fun j y s hy hi => by
      have h1 := hb (j + 1) y s (by simpa using hy) (by rw [show n + (j + 1) = n + 1 + j by omega]; exact hi)
      rw [show n + (j + 1) + 1 = n + 1 + j + 1 by omega] at h1
      exact h1
    refine ⟨(r.1 :: rs.1, rs.2), ?_, by simp [g1], ?_, ?_⟩
    · show (f x s).bind _ = _
      rw [e, Option.bind_some, e2]; rfl
    · intro z hz
      rcases List.mem_cons.mp hz with rfl | hz
      · exact q1
      · exact g2 z hz
    · rw [List.length_cons, show n + (xs.length + 1) = n + 1 + xs.length by omega]
      exact g3
theorem mapS_w {f : α → σ → Option (τ × σ)} {xs : List α} {s : σ} (Q : τ → Prop) (I : Nat → σ → Prop) (h0 : I 0 s) (hb : ∀ (j : Nat) x s, xs[j]? = some x → I j s → Wp (f x s) fun r => Q r.1 ∧ I (j + 1) r.2) : Wp (mapS f xs s) fun r => r.1.length = xs.length ∧ (∀ y ∈ r.1, Q y) ∧ I xs.length r.2 := by
  have := mapS_wp (f := f) Q I (xs := xs) (s := s) (n := 0) h0 fun j x s hx hi => by
    rw [Nat.zero_add] at hi ⊢
    exact hb j x s hx hi
  rwa [Nat.zero_add] at this
end
/-! ### the box that is drawn from -/
def Bok (b : List Int) (n : Int) : Prop := ∃ a v c : Int, b = [a, v, c] ∧ 0 ≤ a ∧ 0 ≤ c ∧ c ≤ n
theorem Bok.mono {b : List Int} {n k : Int} (h : Bok b n) (e : n ≤ k) : Bok b k := let ⟨a, v, c, h1, h2, h3, h4⟩ := h; ⟨a, v, c, h1, h2, h3, Int.le_trans h4 e⟩
theorem all_trues {l : List Bool} (h : ∀ b ∈ l, b = true) : l.all id = true := by
  rw [List.all_eq_true]; exact h
section
variable {α : Type}
theorem cutL_to (l : List α) (k : Nat) : cutL l none (some (k : Int)) = l.take k := by
  unfold cutL
  rw [HT.sIx_nat, HT.sIx_none]
  simp only [List.drop_zero, Nat.sub_zero]
  by_cases h : k ≤ l.length
  · rw [Nat.min_eq_left h]
  · rw [Nat.min_eq_right (by omega), List.take_of_length_le (Nat.le_refl _), List.take_of_length_le (by omega)]
theorem cutL_from (l : List α) (k : Nat) : cutL l (some (k : Int)) none = l.drop k := by
  unfold cutL
  rw [HT.sIx_nat, HT.sIx_none]
  rw [List.take_of_length_le (by rw [List.length_drop]; omega)]
  by_cases h : k ≤ l.length
  · rw [Nat.min_eq_left h]
  · rw [Nat.min_eq_right (by omega), List.drop_of_length_le (Nat.le_refl _), List.drop_of_length_le (by omega)]
theorem cutL_len (l : List α) (lo hi : Option Int) : (cutL l lo hi).length ≤ l.length := by
  unfold cutL
  rw [List.length_take, List.length_drop]
  omega
theorem cutL_mem {l : List α} {lo hi : Option Int} {x : α} (h : x ∈ cutL l lo hi) : x ∈ l := List.mem_of_mem_drop (List.mem_of_mem_take h)
theorem cutL_init (l : List α) (z : α) : cutL (l ++ [z]) none (some (-1)) = l := by
  unfold cutL HT.sIx
  simp
  have : (-1 + ((l.length : Int) + 1)).toNat = l.length := by omega
  rw [this]
  simp
end
end Cm
namespace Cm
open PySem L2
/-! ### texts -/
section
variable {X : Cx} {K : PySem.W.Frag}
def gSlS : PyData → Option Int → Option Int → Option Res
  | .str z, lo, hi => if z.length ≤ 100000 then some (.dat (.str (cutS z lo hi))) else none
  | _, _, _ => none
theorem sd_str : SlD K rSlS gSlS := by
  intro Hk H x dx lo hi res Q e vx h q
  unfold gSlS at h
  split at h
  · split at h
    · rename_i hz
      cases h
      exact ⟨_, vx.str, sz_of hz, q _ _ (.inl ⟨rfl, .str _⟩)⟩
    · cases h
  · cases h
def gInS (neg : Bool) : PyData → PyData → Option Res
  | .str x, .str y => match x.cps.toList with
    | [c] => some (.dat (.bool (neg ^^ decide (c ∈ y.cps.toList))))
    | _ => none
  | _, _ => none
theorem one_sign {x : Str} {c : Nat} (h : x.cps.toList = [c]) : x = ⟨#[c]⟩ := by
  cases x with
  | mk cps =>
    congr 1
    apply Array.ext'
    exact h
theorem od_ins : OpD K rInS (gInS false) := by
  intro Hk H x y dx dy res Q e vx vy h q
  unfold gInS at h
  split at h
  · split at h
    · rename_i c hc
      cases h
      rw [one_sign hc] at vx
      rw [Bool.false_xor] at q
      exact ⟨c, _, vx.str, vy.str, q _ _ (.inl ⟨rfl, .bl _⟩)⟩
    · cases h
  · cases h
theorem od_nins : OpD K rNotInS (gInS true) := by
  intro Hk H x y dx dy res Q e vx vy h q
  unfold gInS at h
  split at h
  · split at h
    · rename_i c hc
      cases h
      rw [one_sign hc] at vx
      rw [Bool.true_xor] at q
      exact ⟨c, _, vx.str, vy.str, q _ _ (.inl ⟨rfl, .bl _⟩)⟩
    · cases h
  · cases h
theorem dv_strs {Hk : Hp} : ∀ ys : List Str, DvAll K Hk (ys.map V.str) (ys.map .str)
  | [] => .nil
  | n :: ns => .cons (.str n) (dv_strs ns)
def gSplit : PyData → List PyData → Option Res
  | .str a, [.str b] => if (b.length == 0) = false ∧ a.length + 2 ≤ 100000 then some (.new (.lst ((Txt.split a b).map .str))) else none
  | _, _ => none
theorem mtd_split : MtD K (fun x xs H Q => ∃ a b, x = .str a ∧ xs = [.str b] ∧ (b.length == 0) = false ∧ a.length + 2 ≤ sizeLine ∧ rNewStrs (Txt.split a b) H Q) gSplit := by
  intro Hk H x vs d ds res Q e hx hv h q
  unfold gSplit at h
  split at h
  · split at h
    · rename_i hz
      cases h
      cases hv with
      | cons v1 v2 =>
        cases v2
        exact ⟨_, _, hx.str, by rw [v1.str], hz.1, sz_of hz.2, fun p hp => q _ _ ⟨p, _, rfl, hp, rfl, dv_strs _⟩⟩
    · cases h
  · cases h
def gPartition : PyData → List PyData → Option Res
  | .str a, [.str b] => if (b.length == 0) = false ∧ a.length ≤ 100000 then some (.dat (.tuple [.str (Txt.partition a b).1, .str (Txt.partition a b).2.1, .str (Txt.partition a b).2.2])) else none
  | _, _ => none
theorem mtd_partition : MtD K (fun x xs H Q => ∃ a b, x = .str a ∧ xs = [.str b] ∧ (b.length == 0) = false ∧ a.length ≤ sizeLine ∧
    ∀ p, H p = none → Q (.ref p) (upd H p (.tup [.str (Txt.partition a b).1, .str (Txt.partition a b).2.1, .str (Txt.partition a b).2.2]))) gPartition := by
  intro Hk H x vs d ds res Q e hx hv h q
  unfold gPartition at h
  split at h
  · split at h
    · rename_i hz
      cases h
      cases hv with
      | cons v1 v2 =>
        cases v2
        exact ⟨_, _, hx.str, by rw [v1.str], hz.1, sz_of hz.2, fun p hp => q _ _ (.inr ⟨p, _, _, rfl, rfl, hp, rfl, .cons (.str _) (.cons (.str _) (.cons (.str _) .nil))⟩)⟩
    · cases h
  · cases h
def strsD : List PyData → Option (List Str)
  | [] => some []
  | .str i :: ds => (strsD ds).map (i :: ·)
  | _ => none
theorem strsD_map : ∀ l : List Str, strsD (l.map .str) = some l
  | [] => rfl
  | x :: l => by
    show (strsD (l.map .str)).map (x :: ·) = _
    rw [strsD_map l]; rfl
theorem strs_dv {Hk : Hp} : ∀ {ds : List PyData} {vs : List V} {ns : List Str}, DvAll K Hk vs ds → strsD ds = some ns → vs = ns.map V.str
  | [], _, ns, .nil, h => by cases h; rfl
  | .str i :: ds, _, ns, .cons h1 h2, h => by
    obtain ⟨ms, e1, rfl⟩ := Option.map_eq_some_iff.mp h
    cases h1
    rw [strs_dv h2 e1]
    rfl
  | .none :: ds, _, ns, .cons h1 h2, h => by cases h
  | .bool _ :: ds, _, ns, .cons h1 h2, h => by cases h
  | .int _ :: ds, _, ns, .cons h1 h2, h => by cases h
  | .list _ :: ds, _, ns, .cons h1 h2, h => by cases h
  | .tuple _ :: ds, _, ns, .cons h1 h2, h => by cases h
  | .dict _ :: ds, _, ns, .cons h1 h2, h => by cases h
def gJoin : PyData → List PyData → Option Res
  | .str a, [.list ds] => (strsD ds).bind fun ys => if (ys.map (·.length)).sum + ys.length * a.length ≤ 16777216 then some (.dat (.str (Txt.join a ys))) else none
  | .str a, [.tuple ds] => (strsD ds).bind fun ys => if (ys.map (·.length)).sum + ys.length * a.length ≤ 16777216 then some (.dat (.str (Txt.join a ys))) else none
  | _, _ => none
theorem mtd_join : MtD K (fun x xs H Q => ∃ a p, ∃ ys : List Str, x = .str a ∧ xs = [.ref p] ∧ (SqL K H p (ys.map V.str) ∨ SqT K H p (ys.map V.str)) ∧
    (ys.map (·.length)).sum + ys.length * a.length ≤ 16777216 ∧ Q (.str (Txt.join a ys)) H) gJoin := by
  intro Hk H x vs d ds res Q e hx hv h q
  unfold gJoin at h
  split at h
  · obtain ⟨ys, h1, h2⟩ := Option.bind_eq_some_iff.mp h
    split at h2
    · rename_i hz
      cases h2
      cases hv with
      | cons v1 v2 =>
        cases v2
        obtain ⟨p, ws, rfl, g1, g2⟩ := v1.list e
        rw [strs_dv g2 h1] at g1
        exact ⟨_, p, ys, hx.str, rfl, .inl (SqL.of g1), hz, q _ _ (.inl ⟨rfl, .str _⟩)⟩
    · cases h2
  · obtain ⟨ys, h1, h2⟩ := Option.bind_eq_some_iff.mp h
    split at h2
    · rename_i hz
      cases h2
      cases hv with
      | cons v1 v2 =>
        cases v2
        obtain ⟨p, ws, rfl, g1, g2⟩ := v1.tup e
        rw [strs_dv g2 h1] at g1
        exact ⟨_, p, ys, hx.str, rfl, .inr g1, hz, q _ _ (.inl ⟨rfl, .str _⟩)⟩
    · cases h2
  · cases h
def gFind : PyData → List PyData → Option Res
  | .str a, [.str b] => some (.dat (.int (Txt.find a b)))
  | _, _ => none
theorem mtd_find : MtD K (fun x xs H Q => ∃ a b, x = .str a ∧ xs = [.str b] ∧ Q (.int (Txt.find a b)) H) gFind := by
  intro Hk H x vs d ds res Q e hx hv h q
  unfold gFind at h
  split at h
  · cases h
    cases hv with
    | cons v1 v2 =>
      cases v2
      exact ⟨_, _, hx.str, by rw [v1.str], q _ _ (.inl ⟨rfl, .int _⟩)⟩
  · cases h
/-! a text walked -/
def signsD (x : Str) : List PyData := x.cps.toList.map fun c => .str ⟨#[c]⟩
def mItS (m : ME) : MI := fun env => (m env).bind fun p => match p.1 with
  | .dat (.str x) => some (signsD x, p.2)
  | _ => none
theorem iter_str {x : Str} {Hk : Hp} : IterOk K Hk (Its x) (signsD x) := by
  intro Hk2 H2 s2 e2 i
  refine ⟨fun d hd => ?_, fun hl => ?_⟩
  · unfold signsD at hd
    rw [List.getElem?_map] at hd
    obtain ⟨c, hc, rfl⟩ := Option.map_eq_some_iff.mp hd
    have hc' : x.cps[i]? = some c := by simpa using hc
    refine ⟨?_, fun v H' hv => ?_⟩
    · show i < x.cps.size
      by_cases h : i < x.cps.size
      · exact h
      · rw [Array.getElem?_eq_none (by omega)] at hc'
        cases hc'
    · obtain ⟨rfl, c', h1, rfl⟩ := hv
      rw [hc'] at h1
      cases h1
      exact .inl ⟨rfl, .str _⟩
  · show x.cps.size ≤ i
    simpa [signsD] using hl
theorem itS_run {m : ME} {σ : St} {H : Hp} {R : It → Hp → Prop} (h : tI K (mItS m) σ H R) : iStr (tE K m) σ H R := by
  obtain ⟨B, env, Hk, ds, env', R0, hm, k⟩ := h
  obtain ⟨⟨r, e1⟩, h1, hm⟩ := Option.bind_eq_some_iff.mp hm
  refine ⟨B, env, Hk, r, e1, R0, h1, fun v Hk1 H1 R1 s1 o1 => ?_⟩
  cases r with
  | new c => cases hm
  | slt i => cases hm
  | pv p => cases hm
  | dat d =>
    cases d with
    | str x =>
      cases hm
      cases o1
      exact ⟨x, rfl, k _ Hk1 H1 R1 s1 iter_str⟩
    | _ => cases hm
theorem vi_str {tg e : Expr} {m : ME} (he : VE X e m) : VI X tg e (mItS m) := (pi_str he).imp fun _ _ _ => itS_run
/-! name += text -/
def mAugS (i : Nat) (m : ME) : MS := fun env => match env[i]? with
  | some (.val (.str a)) => (m env).bind fun p => match p.1 with
    | .dat (.str b) => if a.length + b.length ≤ 100000 then some (.nx, p.2.set i (.val (.str (a ++ b)))) else none
    | _ => none
  | _ => none
theorem augS_run {i : Nat} {m : ME} {W : WX} {D : Ends} {σ : St} {H : Hp} (h : tS K W (mAugS i m) D σ H) : tAug i (tE K m) (fun x y H Q => ∃ i j, x = .str i ∧ y = .str j ∧ i.length + j.length ≤ sizeLine ∧ Q (.str (i ++ j)) H) D σ H := by
  obtain ⟨B, env, Hk, fl, env', R, hm, k⟩ := h
  unfold mAugS at hm
  split at hm
  · rename_i a ha
    obtain ⟨⟨r, e1⟩, h1, hm⟩ := Option.bind_eq_some_iff.mp hm
    obtain ⟨o, g1, v, rfl, g2⟩ := R.slot i _ ha
    cases g2
    refine ⟨_, g1, B, env, Hk, r, e1, R, h1, fun w Hk1 H1 R1 s1 o1 => ?_⟩
    cases r with
    | new c => cases hm
    | slt i => cases hm
    | pv p => cases hm
    | dat d =>
      cases d with
      | str b =>
        dsimp only at hm
        split at hm
        · rename_i hz
          cases hm
          cases o1
          exact ⟨a, b, rfl, rfl, sz_of hz, k _ Hk1 H1 (R1.setVal (.str _)) s1⟩
        · cases hm
      | _ => cases hm
  · cases hm
theorem vs_augS {i : Nat} {x : Str} {e : Expr} {m : ME} {pos' pos : Pos} (hN : X.N.Nodup) (he : VE X e m) (hi : X.N[i]? = some x := by rfl) (hx : Loc X.env.scope x := by first | exact Or.inl rfl | exact Or.inr rfl) (hf : X.fn x = true ∨ X.env.scope.names.lookup x = some .local := by first | exact .inl rfl | exact .inr rfl | assumption) :
    VS X (.AugAssign (.Name x pos') .Add e pos) (mAugS i m) := fun W _ => (ps_aug hN hi hx he iop_add_str hf).imp fun _ _ _ => augS_run
end
/-! ### texts: plain -/
def pSlS (z : Str) (lo hi : Option Int) : Option Str := if z.length ≤ 100000 then some (cutS z lo hi) else none
theorem x_slS {z : Str} {lo hi : Option Int} : gSlS (.str z) lo hi = (pSlS z lo hi).map (fun z => .dat (.str z)) := by
  simp only [gSlS, pSlS]; split <;> rfl
def pInS (neg : Bool) (x y : Str) : Option Bool := match x.cps.toList with
  | [c] => some (neg ^^ decide (c ∈ y.cps.toList))
  | _ => none
theorem x_inS {neg : Bool} {x y : Str} : gInS neg (.str x) (.str y) = (pInS neg x y).map (fun z => .dat (.bool z)) := by
  unfold gInS pInS
  dsimp only
  split <;> rfl
def pSplit (a b : Str) : Option (List Str) := if (b.length == 0) = false ∧ a.length + 2 ≤ 100000 then some (Txt.split a b) else none
theorem x_split {a b : Str} : gSplit (.str a) [.str b] = (pSplit a b).map (fun l => .new (.lst (l.map eS))) := by
  simp only [gSplit, pSplit]; split <;> rfl
def pPartition (a b : Str) : Option (Str × Str × Str) := if (b.length == 0) = false ∧ a.length ≤ 100000 then some (Txt.partition a b) else none
theorem x_partition {a b : Str} : gPartition (.str a) [.str b] = (pPartition a b).map (fun z => .dat (eT3 eS eS eS z)) := by
  simp only [gPartition, pPartition]; split <;> rfl
def pJoin (a : Str) (ys : List Str) : Option Str := if (ys.map (·.length)).sum + ys.length * a.length ≤ 16777216 then some (Txt.join a ys) else none
theorem x_join {a : Str} {l : List Str} : gJoin (.str a) [.list (l.map .str)] = (pJoin a l).map (fun z => .dat (.str z)) := by
  simp only [gJoin, strsD_map, pJoin, Option.bind_some]; split <;> rfl
theorem x_find {a b : Str} : gFind (.str a) [.str b] = some (.dat (.int (Txt.find a b))) := rfl
def signs (x : Str) : List Str := x.cps.toList.map fun c => ⟨#[c]⟩
theorem signsD_eq (x : Str) : signsD x = (signs x).map eS := by
  unfold signsD signs
  rw [List.map_map]
  rfl
section
variable {β γ : Type} {env e e2 : Sl} {R : Option β} {m : ME} {ms : MA}
def itSK (r : Res) (e : Sl) (K : List PyData → Sl → Option β) : Option β := match r with
  | .dat (.str x) => K ((signs x).map eS) e
  | _ => none
theorem c_itS {K : List PyData → Sl → Option β} (k : bnd (m env) (fun r e => itSK r e K) = R) : bnd (mItS m env) K = R := by
  rw [← k]; unfold mItS bnd itSK
  cases m env with
  | none => rfl
  | some p =>
    cases p with
    | mk r e =>
      cases r with
      | dat d =>
        cases d with
        | str x =>
          show K (signsD x) e = K ((signs x).map eS) e
          rw [signsD_eq]
        | _ => rfl
      | _ => rfl
theorem c_itSK {K : List PyData → Sl → Option β} {x : Str} (k : K ((signs x).map eS) e = R) : itSK (.dat (.str x)) e K = R := k
def augSK (i : Nat) (a : Str) (r : Res) (e : Sl) (K : Fl → Sl → Option β) : Option β := match r with
  | .dat (.str b) => (pCatS a b).bind fun z => K .nx (e.set i (.val (.str z)))
  | _ => none
theorem c_augS {i : Nat} {x : Str} {K : Fl → Sl → Option β} (h : env[i]? = some (.val (.str x))) (k : bnd (m env) (fun r e => augSK i x r e K) = R) : bnd (mAugS i m env) K = R := by
  rw [← k]; unfold mAugS bnd augSK
  rw [h]
  simp only
  cases m env with
  | none => rfl
  | some p =>
    cases p with
    | mk r e =>
      cases r with
      | dat d =>
        cases d with
        | str b =>
          simp only [Option.bind_some, pCatS]
          split <;> rfl
        | _ => rfl
      | _ => rfl
theorem c_augSK {i : Nat} {x y : Str} {K : Fl → Sl → Option β} {k : Str → Option γ} {h : γ → Option β} (E : Str → Sl) (hs : ∀ z, e.set i (.val (.str z)) = E z) (p : ∀ z, K .nx (E z) = (k z).bind h) : augSK i x (.dat (.str y)) e K = ((pCatS x y).bind k).bind h := by
  show ((pCatS x y).bind fun z => K .nx (e.set i (.val (.str z)))) = _
  cases pCatS x y with
  | none => rfl
  | some z =>
    show K .nx (e.set i (.val (.str z))) = _
    rw [hs]; exact p z
end
/-! ### things of any make -/
def pLenD (d : PyData) : Option Int := match d with
  | .list ds => some ds.length
  | .tuple ds => some ds.length
  | .str x => if x.length ≤ 100000 then some x.length else none
  | _ => none
theorem x_lenD {d : PyData} : gLen [d] = (pLenD d).map (fun z => .dat (.int z)) := by
  cases d with
  | str x =>
    simp only [gLen, pLenD]
    split <;> rfl
  | _ => rfl
def pIsi (T : String) (d : PyData) : Option Bool := kitB (tyN d) T
def pIsi2 (S T : String) (d : PyData) : Option Bool := (kitB (tyN d) S).bind fun b => (kitB (tyN d) T).map fun c => (b || c)
section
variable {β γ : Type} {env e e2 : Sl} {R : Option β} {m : ME} {ms : MA} {K : Res → Sl → Option β}
def isiK (T : String) (r : Res) (e : Sl) (K : Res → Sl → Option β) : Option β := (rdv e (stab r)).bind fun d => (pIsi T d).bind fun b => K (.dat (.bool b)) e
theorem c_isi {T : String} (k : bnd (m env) (fun r e => isiK T r e K) = R) : bnd (mIsi T m env) K = R := by
  rw [← k]; unfold mIsi bnd isiK pIsi
  cases m env with
  | none => rfl
  | some p =>
    simp only [Option.bind_some]
    cases rdv p.2 (stab p.1) with
    | none => rfl
    | some d =>
      simp only [Option.bind_some]
      cases kitB (tyN d) T <;> rfl
theorem c_isiK {T : String} {r : Res} {d : PyData} {k : Bool → Option γ} {h : γ → Option β} (h1 : rdv e (stab r) = some d) (p : ∀ b, K (.dat (.bool b)) e = (k b).bind h) : isiK T r e K = ((pIsi T d).bind k).bind h := by
  unfold isiK; rw [h1]
  show ((pIsi T d).bind fun b => K (.dat (.bool b)) e) = _
  cases pIsi T d with
  | none => rfl
  | some b => exact p b
def isi2K (S T : String) (r : Res) (e : Sl) (K : Res → Sl → Option β) : Option β := (rdv e (stab r)).bind fun d => (pIsi2 S T d).bind fun b => K (.dat (.bool b)) e
theorem c_isi2 {S T : String} (k : bnd (m env) (fun r e => isi2K S T r e K) = R) : bnd (mIsi2 S T m env) K = R := by
  rw [← k]; unfold mIsi2 bnd isi2K pIsi2
  cases m env with
  | none => rfl
  | some p =>
    simp only [Option.bind_some]
    cases rdv p.2 (stab p.1) with
    | none => rfl
    | some d =>
      simp only [Option.bind_some]
      cases kitB (tyN d) S with
      | none => rfl
      | some b =>
        simp only [Option.bind_some]
        cases kitB (tyN d) T <;> rfl
theorem c_isi2K {S T : String} {r : Res} {d : PyData} {k : Bool → Option γ} {h : γ → Option β} (h1 : rdv e (stab r) = some d) (p : ∀ b, K (.dat (.bool b)) e = (k b).bind h) : isi2K S T r e K = ((pIsi2 S T d).bind k).bind h := by
  unfold isi2K; rw [h1]
  show ((pIsi2 S T d).bind fun b => K (.dat (.bool b)) e) = _
  cases pIsi2 S T d with
  | none => rfl
  | some b => exact p b
end
/-! ### zip of two lists or two tuples -/
section
variable {X : Cx} {K : PySem.W.Frag}
def zipA (x y : PyData) : Option (List PyData) := match x, y with
  | .list xs, .list ys => some (zipD xs ys)
  | .tuple xs, .tuple ys => some (zipD xs ys)
  | _, _ => none
def mZipA (ms : MA) : MI := fun env => (ms env).bind fun p => match p.1 with
  | [.dat x, .dat y] => (zipA x y).map fun ds => (ds, p.2)
  | _ => none
theorem zipA_run {ms : MA} {σ : St} {H : Hp} {R : It → Hp → Prop} (h : tI K (mZipA ms) σ H R) : RZ.iZipA K (tA K ms) σ H R := by
  obtain ⟨B, env, Hk, ds, env', R0, hm, k⟩ := h
  obtain ⟨⟨rs, e1⟩, h1, hm⟩ := Option.bind_eq_some_iff.mp hm
  refine ⟨B, env, Hk, rs, e1, R0, h1, fun vs Hk1 H1 R1 s1 o1 => ?_⟩
  split at hm
  · rename_i x y he
    obtain ⟨zs, hz, hm⟩ := Option.map_eq_some_iff.mp hm
    cases hm
    have he : rs = [.dat x, .dat y] := he
    subst he
    cases o1 with
    | cons o1 o2 =>
      cases o2 with
      | cons o2 o3 =>
        cases o3
        unfold zipA at hz
        split at hz
        · cases hz
          cases o1 with
          | lst g1 g2 =>
            cases o2 with
            | lst g3 g4 =>
              refine ⟨_, _, _, _, rfl, .inl ⟨SqL.of (R1.ex _ _ g1), SqL.of (R1.ex _ _ g3), k _ Hk1 H1 R1 s1 ?_⟩⟩
              intro Hk2 H2 s2 e2 i
              have w1 := SqL.of (K := K) (e2 _ _ (s2 _ _ g1))
              have w2 := SqL.of (K := K) (e2 _ _ (s2 _ _ g3))
              refine ⟨fun d hi => ?_, fun hl => ⟨_, _, w1, w2, by rw [g2.len, g4.len]; rw [zipD_len] at hl; omega⟩⟩
              obtain ⟨x, y, q1, q2, rfl⟩ := zipD_get _ _ i d hi
              obtain ⟨v, q3, q4⟩ := g2.get i x q1
              obtain ⟨u, q5, q6⟩ := g4.get i y q2
              refine ⟨⟨_, _, v, u, w1, w2, q3, q5⟩, fun z H' hz => ?_⟩
              obtain ⟨T, v', u', rfl, hT, rfl, hx, hy⟩ := hz
              have e3 := hx _ w1
              have e4 := hy _ w2
              rw [q3] at e3
              rw [q5] at e4
              cases e3
              cases e4
              exact .inr ⟨T, _, _, rfl, rfl, hT, rfl, .cons (dv_mono s2 _ _ q4) (.cons (dv_mono s2 _ _ q6) .nil)⟩
        · cases hz
          cases o1 with
          | tup g1 g2 =>
            cases o2 with
            | tup g3 g4 =>
              refine ⟨_, _, _, _, rfl, .inr ⟨same_tup R1.ex g1, same_tup R1.ex g3, k _ Hk1 H1 R1 s1 ?_⟩⟩
              intro Hk2 H2 s2 e2 i
              have w1 := same_tup e2 (same_tup s2 g1)
              have w2 := same_tup e2 (same_tup s2 g3)
              refine ⟨fun d hi => ?_, fun hl => ⟨_, _, w1, w2, by rw [g2.len, g4.len]; rw [zipD_len] at hl; omega⟩⟩
              obtain ⟨x, y, q1, q2, rfl⟩ := zipD_get _ _ i d hi
              obtain ⟨v, q3, q4⟩ := g2.get i x q1
              obtain ⟨u, q5, q6⟩ := g4.get i y q2
              refine ⟨⟨_, _, v, u, w1, w2, q3, q5⟩, fun z H' hz => ?_⟩
              obtain ⟨T, v', u', rfl, hT, rfl, hx, hy⟩ := hz
              have e3 := hx _ w1
              have e4 := hy _ w2
              rw [q3] at e3
              rw [q5] at e4
              cases e3
              cases e4
              exact .inr ⟨T, _, _, rfl, rfl, hT, rfl, .cons (dv_mono s2 _ _ q4) (.cons (dv_mono s2 _ _ q6) .nil)⟩
        · cases hz
  · cases hm
theorem vi_zipA {e e2 : Expr} {ms : MA} {p pos tpos : Pos} {elts : List Expr} {kk : Nat} (hm : X.mg "zip" = none) (ha : VA X [e, e2] ms) (hg : Gl X "zip" := by rfl)
    (hs : starEach [e, e2] X.env = (false, eval e X.env) :: starEach [e2] X.env := by rfl) (hpl : (backTo pos (starEach [e2] X.env)).any (·.1) = false := by rfl) :
    VI X (.Tuple elts kk tpos) (.Call (.Name "zip" p) [e, e2] [] pos) (mZipA ms) := (RZ.pi_zipA hg hm ha hs hpl).imp fun _ _ _ => zipA_run
end
section
variable {β γ : Type} {env e : Sl} {R : Option β} {ms : MA} {K : List PyData → Sl → Option β}
def zipP : List PyData → List PyData → List (PyData × PyData)
  | x :: xs, y :: ys => (x, y) :: zipP xs ys
  | _, _ => []
def pZipA (x y : PyData) : Option (List (PyData × PyData)) := match x, y with
  | .list xs, .list ys => some (xs.zip ys)
  | .tuple xs, .tuple ys => some (xs.zip ys)
  | _, _ => none
def zipAK (rs : List Res) (e : Sl) (K : List PyData → Sl → Option β) : Option β := match rs with
  | [.dat x, .dat y] => (pZipA x y).bind fun l => K (l.map (eT2 eD eD)) e
  | _ => none
theorem zipD_zip (xs ys : List PyData) : zipD xs ys = (xs.zip ys).map (eT2 eD eD) := by
  have := zip_map (e := eD) (f := eD) xs ys
  simpa using this
theorem c_zipA (k : bnd (ms env) (fun rs e => zipAK rs e K) = R) : bnd (mZipA ms env) K = R := by
  rw [← k]; unfold mZipA bnd zipAK
  cases ms env with
  | none => rfl
  | some p =>
    cases p with
    | mk rs e =>
      simp only [Option.bind_some]
      have hz : ∀ x y : PyData, ((zipA x y).map fun ds => (ds, e)).bind (fun p => K p.1 p.2) = (pZipA x y).bind fun l => K (l.map (eT2 eD eD)) e := fun x y => by
        unfold zipA pZipA
        cases x <;> cases y <;> simp [zipD_zip]
      rcases rs with _ | ⟨r1, _ | ⟨r2, _ | ⟨r3, rs⟩⟩⟩
      · rfl
      · cases r1 <;> rfl
      · cases r1 with
        | dat x =>
          cases r2 with
          | dat y => exact hz x y
          | _ => rfl
        | _ => rfl
      · cases r1 with
        | dat x => cases r2 <;> rfl
        | _ => rfl
theorem c_zipAK {x y : PyData} {rs : List Res} {k : List (PyData × PyData) → Option γ} {h : γ → Option β} (hr : rs = [.dat x, .dat y]) (p : ∀ l, K (l.map (eT2 eD eD)) e = (k l).bind h) : zipAK rs e K = ((pZipA x y).bind k).bind h := by
  subst hr
  show ((pZipA x y).bind fun l => K (l.map (eT2 eD eD)) e) = _
  cases pZipA x y with
  | none => rfl
  | some l => exact p l
end
def pIsN (neg : Bool) (d : PyData) : Bool := neg ^^ isNoneD d
theorem x_isND {neg : Bool} {d : PyData} : gIsN neg d .none = some (.dat (.bool (pIsN neg d))) := rfl
/-! ### xs[lo:hi:step] -/
def pickL {α : Type} (l : List α) (lo hi : Option Int) (st : Int) : List α := (sliceRange (sliceBounds lo hi (some st) l.length).1 (sliceBounds lo hi (some st) l.length).2.1 (sliceBounds lo hi (some st) l.length).2.2).filterMap (l[·]?)
theorem vals_pick {xs : List V} {its : List Value} (r : Vals xs its) : ∀ is : List Nat, Vals (is.filterMap (xs[·]?)) (is.filterMap (its[·]?))
  | [] => .nil
  | i :: is => by
    have ih := vals_pick r is
    have hl := r.length
    cases hx : xs[i]? with
    | none =>
      have h1 := List.getElem?_eq_none_iff.mp hx
      have h2 : its[i]? = none := List.getElem?_eq_none (by omega)
      rw [List.filterMap_cons_none hx, List.filterMap_cons_none h2]
      exact ih
    | some x =>
      obtain ⟨v, hv, hr⟩ := r.get hx
      rw [List.filterMap_cons_some hx, List.filterMap_cons_some hv]
      exact .cons hr ih
theorem pick_len {α : Type} (l : List α) (lo hi : Option Int) (st : Int) : (pickL l lo hi st).length ≤ l.length ∨ True := .inr trivial
theorem pick_size {xs : List V} {its : List Value} (r : Vals xs its) (lo hi : Option Int) (st : Int) : (pickL xs lo hi st).length ≤ xs.length := by
  have h1 := slicePick_size_le its.toArray lo hi (some st)
  have h2 : (slicePick its.toArray lo hi (some st)).size = (pickL xs lo hi st).length := by
    unfold slicePick pickL
    have := (vals_pick r (sliceRange (sliceBounds lo hi (some st) xs.length).1 (sliceBounds lo hi (some st) xs.length).2.1 (sliceBounds lo hi (some st) xs.length).2.2)).length
    rw [this, r.length]
    simp
  rw [← h2]
  have := r.length
  simp at h1
  omega
section
variable {X : Cx} {K : PySem.W.Frag}
def tSl3 (K : PySem.W.Frag) (te : TE) (tl th ts : TO) : TE := fun σ H Q => te σ H fun x H1 => tl σ H1 fun l H2 => th σ H2 fun u H3 => ts σ H3 fun o H4 => ∃ c a xs, o = some c ∧ c ≠ 0 ∧ x = .ref a ∧ SqL K H4 a xs ∧ ∀ p, H4 p = none → Q (.ref p) (upd H4 p (.lst (pickL xs l u c)))
open PySem.Spec PyProof.Rows in
theorem pe_slice3 {e st : Expr} {lo hi : Option Expr} {te : TE} {tl th ts : TO} {p3 pos : Pos} (he : PE X e te) (hl : PO X lo tl) (hu : PO X hi th) (hst : PO X (some st) ts) : PE X (.Subscript e (.Slice lo hi (some st) p3) pos) (tSl3 X.K te tl th ts) := by
  refine ⟨fun pins s σ H Q I h => ?_⟩
  refine Subscript_ (thn (he.run pins s σ H _ I h) fun v s1 ⟨x, H1, I1, r1, q1⟩ => ?_)
  refine wpAny_Slice (thn (hl.run pins s1 σ H1 _ I1 q1) fun vl s2 ⟨l, H2, I2, pl, q2⟩ => ?_)
  refine thn (hu.run pins s2 σ H2 _ I2 q2) fun vu s3 ⟨u, H3, I3, pu, q3⟩ => ?_
  refine thn (hst.run pins s3 σ H3 _ I3 q3) fun vs s4 ⟨o, H4, I4, ps, q4⟩ => ?_
  obtain ⟨c, a, xs, eo, hc, ex, hx, q⟩ := q4
  subst eo ex
  cases r1
  have I5 : Inv X pins σ H4 { s4 with heap := s4.heap.push { cls := .type "slice", data := .fields #[vl, vu, vs] } } := I4.kept (t' := s4.toks) fun b ob q => Heap.get?_push_of_some _ q
  obtain ⟨its, r, ht, hz⟩ := I5.list hx
  have hlen := r.length
  show wpAny (model X.prog X.w) X.A (subscriptTail e (.Slice lo hi (some st) p3) (.ref a) (.ref s4.heap.objs.size)) (EP X pins σ Q) X.xe { s4 with heap := s4.heap.push { cls := .type "slice", data := .fields #[vl, vu, vs] } }
  refine tail_any (ops := [.ref a, .ref s4.heap.objs.size]) ht.isList.typeIs (PySem.slot_list_getitem.lookup) ?_ (by with_unfolding_all rfl)
  refine wpAny_getItem_list_slice ht.isList (Heap.IsSliceOf.new _ vl vu vs) pl pu ps (by intro z; cases z; exact hc rfl) ?_ (by rw [List.size_toArray]; omega)
  have hp := pick_size r l u c
  have hv := vals_pick r (sliceRange (sliceBounds l u (some c) xs.length).1 (sliceBounds l u (some c) xs.length).2.1 (sliceBounds l u (some c) xs.length).2.2)
  have e2 : slicePick its.toArray l u (some c) = ((sliceRange (sliceBounds l u (some c) xs.length).1 (sliceBounds l u (some c) xs.length).2.1 (sliceBounds l u (some c) xs.length).2.2).filterMap (its[·]?)).toArray := by
    unfold slicePick
    rw [hlen]
    simp
  rw [e2]
  refine ⟨.ref _, _, I5.laid (t' := s4.toks) (o := .lst (pickL xs l u c)) (fun b ob q => Heap.get?_push_of_some _ q) (Nat.le_refl _) ?_, rfl, q _ (I5.hok.fresh (Nat.le_refl _))⟩
  exact ⟨by omega, _, 0, hv, Heap.get?_push_size _ rfl⟩
theorem pick_dv {Hk : Hp} {vs : List V} {ds : List PyData} (h : DvAll K Hk vs ds) : ∀ is : List Nat, DvAll K Hk (is.filterMap (vs[·]?)) (is.filterMap (ds[·]?))
  | [] => .nil
  | i :: is => by
    have ih := pick_dv h is
    have hl := h.len
    cases hx : ds[i]? with
    | none =>
      have h1 := List.getElem?_eq_none_iff.mp hx
      have h2 : vs[i]? = none := List.getElem?_eq_none (by omega)
      rw [List.filterMap_cons_none hx, List.filterMap_cons_none h2]
      exact ih
    | some x =>
      obtain ⟨v, hv, hr⟩ := h.get i x hx
      rw [List.filterMap_cons_some hx, List.filterMap_cons_some hv]
      exact .cons hr ih
def mSl3 (m : ME) (ml mh ms : MO) : ME := fun env => (m env).bind fun p => (ml p.2).bind fun a => (mh a.2).bind fun b => (ms b.2).bind fun c => (rdv c.2 (stab p.1)).bind fun dx => match dx, c.1 with
  | .list ds, some st => if st ≠ 0 then some (.new (.lst (pickL ds a.1 b.1 st)), c.2) else none
  | _, _ => none
theorem sl3_run {m : ME} {ml mh ms : MO} {σ : St} {H : Hp} {Q : VK} (h : tE K (mSl3 m ml mh ms) σ H Q) : tSl3 K (tE K m) (tO K ml) (tO K mh) (tO K ms) σ H Q := by
  obtain ⟨B, env, Hk, res, env', R, hm, k⟩ := h
  obtain ⟨⟨x, e1⟩, h1, hm⟩ := Option.bind_eq_some_iff.mp hm
  obtain ⟨⟨lo, e2⟩, h2, hm⟩ := Option.bind_eq_some_iff.mp hm
  obtain ⟨⟨hi, e3⟩, h3, hm⟩ := Option.bind_eq_some_iff.mp hm
  obtain ⟨⟨st, e4⟩, h4, hm⟩ := Option.bind_eq_some_iff.mp hm
  obtain ⟨dx, h5, hm⟩ := Option.bind_eq_some_iff.mp hm
  refine ⟨B, env, Hk, x, e1, R, h1, fun v Hk1 H1 R1 s1 o1 => ?_⟩
  obtain ⟨Hk1', R1', s1', o1'⟩ := R1.stab o1
  refine ⟨B, e1, Hk1', lo, e2, R1', h2, fun Hk2 H2 R2 s2 => ?_⟩
  refine ⟨B, e2, Hk2, hi, e3, R2, h3, fun Hk3 H3 R3 s3 => ?_⟩
  refine ⟨B, e3, Hk3, st, e4, R3, h4, fun Hk4 H4 R4 s4 => ?_⟩
  cases dx with
  | list ds =>
    cases st with
    | none => cases hm
    | some c =>
      by_cases hc : c ≠ 0
      · have hm2 : some (Res.new (.lst (pickL ds lo hi c)), e4) = some (res, env') := by
          rw [← hm]
          show _ = if c ≠ 0 then _ else _
          rw [if_pos hc]
        cases hm2
        have vw := R4.view (((o1'.mono s2).mono s3).mono s4) h5
        obtain ⟨a, vs, rfl, g1, g2⟩ := vw.list R4.ex
        refine ⟨c, a, vs, rfl, hc, rfl, SqL.of g1, fun p hp => ?_⟩
        have out : Out K Hk4 H4 (.new (.lst (pickL ds lo hi c))) (.ref p) (upd H4 p (.lst (pickL vs lo hi c))) := by
          refine ⟨p, _, rfl, hp, rfl, ?_⟩
          have := pick_dv g2 (sliceRange (sliceBounds lo hi (some c) ds.length).1 (sliceBounds lo hi (some c) ds.length).2.1 (sliceBounds lo hi (some c) ds.length).2.2)
          unfold pickL
          rw [g2.len]
          exact this
        obtain ⟨Hk5, R5, s5, o5⟩ := R4.out out
        exact k _ Hk5 _ R5 (((((s1.trans s1').trans s2).trans s3).trans s4).trans s5) o5
      · have hm2 : (none : Option (Res × Sl)) = some (res, env') := by
          rw [← hm]
          show _ = if c ≠ 0 then _ else _
          rw [if_neg hc]
        cases hm2
  | _ => cases hm
theorem ve_slice3 {e st : Expr} {lo hi : Option Expr} {m : ME} {ml mh ms : MO} {p3 pos : Pos} (he : VE X e m) (hl : VO X lo ml) (hu : VO X hi mh) (hst : VO X (some st) ms) : VE X (.Subscript e (.Slice lo hi (some st) p3) pos) (mSl3 m ml mh ms) := (pe_slice3 he hl hu hst).imp fun _ _ _ => sl3_run
end
theorem pickL_map {α β : Type} (f : α → β) (l : List α) (lo hi : Option Int) (st : Int) : pickL (l.map f) lo hi st = (pickL l lo hi st).map f := by
  unfold pickL
  rw [List.length_map]
  generalize sliceRange _ _ _ = is
  induction is with
  | nil => rfl
  | cons i is ih =>
    cases hx : l[i]? with
    | none => rw [List.filterMap_cons_none hx, List.filterMap_cons_none (by rw [List.getElem?_map, hx]; rfl), ih]
    | some x => rw [List.filterMap_cons_some hx, List.filterMap_cons_some (b := f x) (by rw [List.getElem?_map, hx]; rfl), ih]; rfl
def pPick {α : Type} (l : List α) (lo hi : Option Int) (st : Int) : Option (List α) := if st ≠ 0 then some (pickL l lo hi st) else none
section
variable {β γ : Type} {env e : Sl} {R : Option β} {m : ME} {ml mh ms : MO} {K : Res → Sl → Option β}
def sl3K (r : Res) (lo hi st : Option Int) (e : Sl) (K : Res → Sl → Option β) : Option β := (rdv e (stab r)).bind fun dx => match dx, st with
  | .list ds, some c => (pPick ds lo hi c).bind fun l => K (.new (.lst l)) e
  | _, _ => none
theorem c_sl3 (k : bnd (m env) (fun r e => bnd (ml e) fun lo e => bnd (mh e) fun hi e => bnd (ms e) fun st e => sl3K r lo hi st e K) = R) : bnd (mSl3 m ml mh ms env) K = R := by
  rw [← k]; unfold mSl3 bnd sl3K
  cases m env with
  | none => rfl
  | some p =>
    simp only [Option.bind_some]
    cases ml p.2 with
    | none => rfl
    | some a =>
      simp only [Option.bind_some]
      cases mh a.2 with
      | none => rfl
      | some b =>
        simp only [Option.bind_some]
        cases ms b.2 with
        | none => rfl
        | some c =>
          simp only [Option.bind_some]
          cases rdv c.2 (stab p.1) with
          | none => rfl
          | some dx =>
            cases c with
            | mk c1 c2 =>
              cases dx with
              | list ds =>
                cases c1 with
                | none => rfl
                | some z =>
                  simp only [Option.bind_some, pPick]
                  split <;> rfl
              | _ => rfl
theorem c_sl3K {α : Type} {ec : α → PyData} {l : List α} {r : Res} {lo hi : Option Int} {c : Int} {k : List α → Option γ} {h : γ → Option β} (h1 : rdv e (stab r) = some (.list (l.map ec))) (p : ∀ l' : List α, K (.new (.lst (l'.map ec))) e = (k l').bind h) : sl3K r lo hi (some c) e K = ((pPick l lo hi c).bind k).bind h := by
  unfold sl3K; rw [h1]
  show ((pPick (l.map ec) lo hi c).bind fun l => K (.new (.lst l)) e) = _
  unfold pPick
  split
  · show K (.new (.lst (pickL (l.map ec) lo hi c))) e = _
    rw [pickL_map]
    exact p _
  · rfl
end
theorem x_isNO0 {α : Type} {e : α → PyData} {x : Option α} (h : ∀ x, isNoneD (e x) = false) : gIsN false (eO e x) .none = some (.dat (.bool x.isNone)) := by
  cases x with
  | none => rfl
  | some y => show some (Res.dat (.bool (false ^^ isNoneD (e y)))) = _; rw [h]; rfl
theorem x_isNO1 {α : Type} {e : α → PyData} {x : Option α} (h : ∀ x, isNoneD (e x) = false) : gIsN true (eO e x) .none = some (.dat (.bool x.isSome)) := by
  cases x with
  | none => rfl
  | some y => show some (Res.dat (.bool (true ^^ isNoneD (e y)))) = _; rw [h]; rfl
theorem kit_NoneType_bool : kitB "NoneType" "bool" = some false := by decide +kernel
theorem kit_NoneType_int : kitB "NoneType" "int" = some false := by decide +kernel
theorem kit_NoneType_str : kitB "NoneType" "str" = some false := by decide +kernel
theorem kit_NoneType_list : kitB "NoneType" "list" = some false := by decide +kernel
theorem kit_NoneType_tuple : kitB "NoneType" "tuple" = some false := by decide +kernel
theorem kit_bool_bool : kitB "bool" "bool" = some true := by decide +kernel
theorem kit_bool_int : kitB "bool" "int" = some true := by decide +kernel
theorem kit_bool_str : kitB "bool" "str" = some false := by decide +kernel
theorem kit_bool_list : kitB "bool" "list" = some false := by decide +kernel
theorem kit_bool_tuple : kitB "bool" "tuple" = some false := by decide +kernel
theorem kit_int_bool : kitB "int" "bool" = some false := by decide +kernel
theorem kit_int_int : kitB "int" "int" = some true := by decide +kernel
theorem kit_int_str : kitB "int" "str" = some false := by decide +kernel
theorem kit_int_list : kitB "int" "list" = some false := by decide +kernel
theorem kit_int_tuple : kitB "int" "tuple" = some false := by decide +kernel
theorem kit_str_bool : kitB "str" "bool" = some false := by decide +kernel
theorem kit_str_int : kitB "str" "int" = some false := by decide +kernel
theorem kit_str_str : kitB "str" "str" = some true := by decide +kernel
theorem kit_str_list : kitB "str" "list" = some false := by decide +kernel
theorem kit_str_tuple : kitB "str" "tuple" = some false := by decide +kernel
theorem kit_list_bool : kitB "list" "bool" = some false := by decide +kernel
theorem kit_list_int : kitB "list" "int" = some false := by decide +kernel
theorem kit_list_str : kitB "list" "str" = some false := by decide +kernel
theorem kit_list_list : kitB "list" "list" = some true := by decide +kernel
theorem kit_list_tuple : kitB "list" "tuple" = some false := by decide +kernel
theorem kit_tuple_bool : kitB "tuple" "bool" = some false := by decide +kernel
theorem kit_tuple_int : kitB "tuple" "int" = some false := by decide +kernel
theorem kit_tuple_str : kitB "tuple" "str" = some false := by decide +kernel
theorem kit_tuple_list : kitB "tuple" "list" = some false := by decide +kernel
theorem kit_tuple_tuple : kitB "tuple" "tuple" = some true := by decide +kernel
end Cm
/-! set(xs) of a list of whole numbers -/
namespace Cm
open PySem PySem.Spec PyProof.Rows L2
section
variable {Pg : Program} {W : World} {Ar : Around} {Er : Value → Shared → Prop} {S0 : Shared}
/-- a type that is called: its maker's promise, then its init's, each as a whole -/
theorem typeCalled_by {T mk ini : String} {vs : List Value} {Qr Qn : Value → Shared → Prop} (ft : TypeCalled T mk ini) (ck : checkTypeCall T ⟨vs, []⟩ = pure ())
    (made : codeAny (model Pg W) Ar.in1 (.call (.builtin mk) ⟨.type T :: vs, []⟩) (wants Qn Er) S0)
    (begun : ∀ o s, Qn o s → s.TypeIs o T ∧ codeAny (model Pg W) Ar.in1 (.call (.builtin ini) ⟨o :: vs, []⟩) (wants (fun r s' => r = .none ∧ Qr o s') Er) s) : wpAny (model Pg W) Ar (call (.type T) vs) Qr Er S0 := by
  have ⟨m0, m1, m2⟩ := ft.mro
  have f1 := ft.made; have f2 := ft.sub; have f3 := ft.notType; have f4 := ft.canCreate
  apply wpAny_call; apply codeAny_of_tree
  show wpAny _ _ (callAny (.type T) ⟨vs, []⟩) _ _ _
  refine wpAny_pure (And.intro (Code.quiet_builtin _ (by decide +kernel)) (codeAny_builtin F.entry_type_call ?_))
  rw [Around.under_plain (weight_type_call_type T vs []) rfl]
  repeat any_goals first | assumption | wp_step
  refine codeAny_mono made ?_
  rintro (e | f) s1 h1
  · exact h1
  · cases f with
    | ret o =>
      have ⟨g1, g2⟩ := begun o s1 h1
      have f5 := ft.init.lookup; have f6 := ft.init.bind o
      repeat any_goals first | assumption | wp_step
      refine codeAny_mono g2 ?_
      rintro (e | f') s2 h2
      · exact h2
      · cases f' with
        | ret r =>
          cases h2.1
          have h3 := h2.2
          repeat any_goals first | assumption | wp_step
        | _ => exact False.elim h2
    | _ => exact False.elim h1
/-- a set just made -/
abbrev bare (W : World) : Obj := { cls := .type "set", dict := none, data := .set #[] 0 (.fresh 0 0 (!W.params.followText "set-order")) }
/-- its init with a list of whole numbers -/
theorem setInit_ints {x : Addr} {cells : Array Value} (zs : List Int) {Qr : Shared → Prop} (calm : Ar.handled = none) (xl : S0.heap.IsList x cells) (xi : IntsAre cells.toList zs) (room : zs.length + 1 < scanBound)
    (fin : ∀ hp tk cnt, SetR W hp S0.heap.objs.size (fun j => decide (j ∈ zs)) cnt → cnt ≤ zs.length → (∀ b o, S0.heap.get? b = some o → hp.get? b = some o) → Qr { S0 with heap := hp, toks := tk }) :
    codeAny (model Pg W) Ar (.call (.builtin "set.__init__") ⟨[.ref S0.heap.objs.size, .ref x], []⟩) (wants (fun r s => r = .none ∧ Qr s) Er) { S0 with heap := S0.heap.push (bare W) } := by
  have many : cells.size = zs.length := (Array.length_toList (xs := cells)).symm.trans (IntsAre.length xi)
  have got : (S0.heap.push (bare W)).get? S0.heap.objs.size = some (bare W) := Heap.get?_push_size _ rfl
  have xl2 : (S0.heap.push (bare W)).IsList x cells := xl.push _
  refine codeAny_call_builtin F.called_set.init.plain F.entry_set_init (check_set_init_1 ⟨_, got, rfl⟩ ?_)
  have notSet := F.sub_list_set
  have notFrozen := F.sub_list_frozenset
  obtain ⟨ox, hx, hc, nx, hd⟩ := xl2
  obtain ⟨cx, dx, ax, sx⟩ := ox
  cases hc; cases hd
  have notDict : (Value.type "list" == Value.type "dict") = false := by decide
  unfold Builtin.«set.__init__» noKeywords Builtin.Frozenset.updateFrom
  generalize key : pyIter = walkOf
  wp_walk
  cases key
  have xl3 : (S0.heap.push (bare W)).IsList x cells := ⟨_, hx, rfl, nx, rfl⟩
  have low : x < S0.heap.objs.size := by
    obtain ⟨o, ho, _⟩ := xl
    exact Heap.lt_size ho
  have grown : (S0.heap.push (bare W)).objs.size = S0.heap.objs.size + 1 := Heap.size_push ..
  apply wpAny_pyIter_list xl3
  apply wpAny_bind
  apply wpAny_runValue
  have W0 := (Walks.list (prog := Pg) (w := W) (A := Ar.in1.in1) (by simp [calm]) (S0.heap.push (bare W)).objs.size x (Nat.ne_of_lt (grown ▸ Nat.lt_succ_of_lt low)) cells).toS
  have apart : S0.heap.objs.size ∉ [(S0.heap.push (bare W)).objs.size, x] := fun hm => by
    rcases List.mem_cons.mp hm with q | q
    · exact Nat.ne_of_lt (Nat.lt_succ_self _) (q.trans grown)
    · exact Nat.ne_of_gt low (List.mem_singleton.mp q)
  refine set_update_ints W0 S0.heap.objs.size apart zs many room (fun i v hv => ?vals) cells.size 0 _ (Nat.sub_zero _) (Nat.zero_le _) ⟨⟨_, Heap.get?_push_size _ rfl, rfl, rfl⟩, xl3.push _⟩ ⟨0, Nat.le_refl 0, setR_new_at (Heap.get?_push_of_some _ got)⟩ ?told
  case vals =>
    have hi : i < zs.length := many ▸ (Array.getElem?_eq_some_iff.mp hv).1
    obtain ⟨t, ht⟩ := IntsAre.int_at xi i v (by simpa using hv)
    exact ⟨zs[i], t, List.getElem?_eq_getElem hi, by rw [ht]; simp [hi]⟩
  case told =>
    rintro ⟨hp, gn, dr, tk, os⟩ cnt mv le R
    have e1 : gn = S0.gens := mv.gens
    have e2 : dr = S0.drawn := mv.drawn
    have e3 : os = S0.os := mv.os
    cases e1; cases e2; cases e3
    refine wpAny_pure (wpAny_pure ⟨rfl, fin hp tk cnt R (many ▸ le) fun b o hb => ?_⟩)
    have hlt := Heap.lt_size hb
    refine mv.heap b o ?_ (Heap.get?_push_of_some _ (Heap.get?_push_of_some _ hb))
    intro hm
    rcases List.mem_cons.mp hm with q | q
    · exact Nat.ne_of_lt hlt q
    · exact Nat.ne_of_lt (Nat.lt_succ_of_lt hlt) ((List.mem_singleton.mp q).trans grown)
/-- set(xs) -/
theorem setOf_ints {x : Addr} {cells : Array Value} (zs : List Int) {Qr : Value → Shared → Prop} (calm : Ar.handled = none) (xl : S0.heap.IsList x cells) (xi : IntsAre cells.toList zs) (room : zs.length + 1 < scanBound)
    (fin : ∀ hp tk cnt, SetR W hp S0.heap.objs.size (fun j => decide (j ∈ zs)) cnt → cnt ≤ zs.length → (∀ b o, S0.heap.get? b = some o → hp.get? b = some o) → Qr (.ref S0.heap.objs.size) { S0 with heap := hp, toks := tk }) :
    wpAny (model Pg W) Ar (call (.type "set") [.ref x]) Qr Er S0 := by
  refine typeCalled_by (Qn := fun v s => v = .ref S0.heap.objs.size ∧ s = { S0 with heap := S0.heap.push (bare W) }) F.called_set (F.typeCall_set_1 _) (code_set_led1 _ ⟨rfl, rfl⟩) ?_
  rintro _ _ ⟨rfl, rfl⟩
  exact ⟨⟨_, Heap.get?_push_size _ rfl, rfl⟩, setInit_ints zs (by simp [calm]) xl xi room fin⟩
end
section
variable {X : Cx}
/-- set(xs), by values -/
def rSetL (K : PySem.W.Frag) (w : World) : List V → Hp → VK → Prop := fun xs H Q => ∃ (l : Addr) (zs : List Int), xs = [.ref l] ∧ SqL K H l (zs.map V.int) ∧ zs.length ≤ 1000 ∧
  ∀ p c, H p = none → (∀ D : List Int, (∀ z ∈ zs, z ∈ D) → c ≤ D.length) → Q (.ref p) (upd H p (SetO w p (fun j => decide (j ∈ zs)) c))
theorem nodup_le {α : Type} [DecidableEq α] : ∀ {l D : List α}, l.Nodup → (∀ z ∈ l, z ∈ D) → l.length ≤ D.length
  | [], D, _, _ => Nat.zero_le _
  | x :: l, D, hn, hs => by
    rw [List.nodup_cons] at hn
    have hx := hs x List.mem_cons_self
    have := nodup_le (l := l) (D := D.erase x) hn.2 fun z hz => by
      refine (List.mem_erase_of_ne ?_).mpr (hs z (List.mem_cons_of_mem _ hz))
      intro e
      exact hn.1 (e ▸ hz)
    rw [List.length_erase_of_mem hx] at this
    have hp : 0 < D.length := List.length_pos_of_mem hx
    rw [List.length_cons]
    omega
theorem cr_setL (hc : X.calm = true) : CallR X (.type "set") (rSetL X.K X.w) := by
  intro pins s σ H xs us Q I r h
  obtain ⟨l, zs, rfl, hl, hb, q⟩ := h
  rw [Vals.ref1 r]
  obtain ⟨its, rv, pl, hz⟩ := I.list hl
  refine setOf_ints zs (I.ok.hd hc) pl.isList (by simpa using ints_of_vals rv) (by unfold scanBound; omega) fun hp tk cnt R _ keep => ?_
  refine ⟨.ref s.heap.objs.size, _, I.laid (t' := tk) (o := SetO X.w s.heap.objs.size (fun j => decide (j ∈ zs)) cnt) keep (Nat.le_refl _) (setO_new R), rfl, q _ _ (I.hok.fresh (Nat.le_refl _)) fun D hD => ?_⟩
  obtain ⟨o, es, ep, t, _, _, _, _, nd, mem, _, _, sz, _⟩ := R
  have := nodup_le (D := D) nd fun z hz => hD z (by simpa using (mem z).mpr hz)
  rw [List.length_map, Array.length_toList, sz] at this
  exact this
/-- the numbers of a list, rising, each once -/
def dsort (l : List Int) : List Int := isort l.eraseDups
theorem strict_ext : ∀ {l l' : List Int}, l.Pairwise (· < ·) → l'.Pairwise (· < ·) → (∀ k, k ∈ l ↔ k ∈ l') → l = l'
  | [], [], _, _, _ => rfl
  | [], y :: l', _, _, h => absurd ((h y).mpr List.mem_cons_self) (by simp)
  | x :: l, [], _, _, h => absurd ((h x).mp List.mem_cons_self) (by simp)
  | x :: l, y :: l', h1, h2, h => by
    rw [List.pairwise_cons] at h1 h2
    have e : x = y := by
      rcases List.mem_cons.mp ((h x).mp List.mem_cons_self) with a | a
      · exact a
      · rcases List.mem_cons.mp ((h y).mpr List.mem_cons_self) with b | b
        · exact b.symm
        · have := h1.1 y b
          have := h2.1 x a
          omega
    subst e
    congr 1
    refine strict_ext h1.2 h2.2 fun k => ⟨fun hk => ?_, fun hk => ?_⟩
    · rcases List.mem_cons.mp ((h k).mp (List.mem_cons_of_mem _ hk)) with a | a
      · have := h1.1 k hk
        omega
      · exact a
    · rcases List.mem_cons.mp ((h k).mpr (List.mem_cons_of_mem _ hk)) with a | a
      · have := h2.1 k hk
        omega
      · exact a
theorem nodup_dups : ∀ (n : Nat) (l : List Int), l.length ≤ n → l.eraseDups.Nodup
  | 0, [], _ => by simp [List.eraseDups]
  | n + 1, [], _ => by simp [List.eraseDups]
  | n + 1, x :: l, h => by
    rw [List.eraseDups_cons, List.nodup_cons]
    refine ⟨?_, nodup_dups n _ (Nat.le_trans (List.length_filter_le _ _) (by simpa using h))⟩
    intro hm
    rw [List.mem_eraseDups] at hm
    have := (List.mem_filter.mp hm).2
    simp at this
theorem dsort_mem {l : List Int} {k : Int} : k ∈ dsort l ↔ k ∈ l := by
  unfold dsort
  rw [(isort_perm _).mem_iff, List.mem_eraseDups]
theorem dsort_up (l : List Int) : (dsort l).Pairwise (· < ·) := by
  have h1 := isort_up l.eraseDups
  have h2 : (isort l.eraseDups).Nodup := (isort_perm _).nodup_iff.mpr (nodup_dups l.length l (Nat.le_refl _))
  unfold dsort
  generalize isort l.eraseDups = m at *
  induction m with
  | nil => exact .nil
  | cons x m ih =>
    rw [List.pairwise_cons] at h1 ⊢
    rw [List.nodup_cons] at h2
    refine ⟨fun y hy => ?_, ih h1.2 h2.2⟩
    have := h1.1 y hy
    have : x ≠ y := fun e => h2.1 (e ▸ hy)
    omega
end
section
variable {X : Cx} {K : PySem.W.Frag}
def mSortSet (m : ME) : ME := fun env => (m env).bind fun p => (rdv p.2 (stab p.1)).bind fun d => match d with
  | .list ds => (intsD ds).bind fun ns => if ns.length ≤ 1000 ∧ ns.eraseDups.length < 64 then some (.new (.lst ((dsort ns).map .int)), p.2) else none
  | _ => none
theorem sortSet_run {m : ME} {σ : L2.St} {H : Hp} {Q : VK} (h : tE K (mSortSet m) σ H Q) : tCB (rSortedSet X.w) (tCons (tCB (rSetL K X.w) (tCons (tE K m) tNil)) tNil) σ H Q := by
  obtain ⟨B, env, Hk, res, env', R, hm, k⟩ := h
  obtain ⟨⟨r, e1⟩, h1, hm⟩ := Option.bind_eq_some_iff.mp hm
  obtain ⟨d, h2, hm⟩ := Option.bind_eq_some_iff.mp hm
  refine ⟨B, env, Hk, r, e1, R, h1, fun v Hk1 H1 R1 s1 o1 => ?_⟩
  obtain ⟨Hk1', R1', s1', o1'⟩ := R1.stab o1
  cases d with
  | list ds =>
    obtain ⟨ns, h3, hm⟩ := Option.bind_eq_some_iff.mp hm
    by_cases hc : ns.length ≤ 1000 ∧ ns.eraseDups.length < 64
    · rw [if_pos hc] at hm
      cases hm
      obtain ⟨a, vs, rfl, g1, g2⟩ := (R1'.view o1' h2).list R1'.ex
      rw [ints_dv g2 h3] at g1
      refine ⟨a, ns, rfl, SqL.of g1, hc.1, fun p c hp few => ?_⟩
      have hfew := few ns.eraseDups fun z hz => List.mem_eraseDups.mpr hz
      refine ⟨p, fun j => decide (j ∈ ns), c, rfl, upd_same, by omega, fun out q up mem _ hq => ?_⟩
      have eo : out = dsort ns := strict_ext up (dsort_up ns) fun z => by
        rw [dsort_mem, mem z, decide_eq_true_eq]
      have R2 := R1'.laid (o := SetO X.w p (fun j => decide (j ∈ ns)) c) hp
      have w : Out K Hk1' (upd H1 p (SetO X.w p (fun j => decide (j ∈ ns)) c)) (.new (.lst ((dsort ns).map .int))) (.ref q) (upd (upd H1 p (SetO X.w p (fun j => decide (j ∈ ns)) c)) q (.lst (out.map V.int))) := by
        rw [eo]
        exact ⟨q, _, rfl, hq, rfl, dv_ints _⟩
      obtain ⟨Hk3, R3, s3, o3⟩ := R2.out w
      exact k _ Hk3 _ R3 ((s1.trans s1').trans s3) o3
    · rw [if_neg hc] at hm
      cases hm
  | _ => cases hm
theorem ve_sortSet {e : Expr} {m : ME} {p1 p2 q1 q2 : Pos} (hm1 : X.mg "sorted" = none) (hm2 : X.mg "set" = none) (he : VE X e m) (hc : X.calm = true := by rfl) (hg1 : Gl X "sorted" := by rfl) (hg2 : Gl X "set" := by rfl)
    (hb1 : bootBuiltins "sorted" = some (.builtin "sorted") := by decide +kernel) (hb2 : bootBuiltins "set" = some (.type "set") := by decide +kernel)
    (hs : starEach [e] X.env = (false, eval e X.env) :: starEach [] X.env := by rfl) (hp : (backTo q2 (starEach [] X.env)).any (·.1) = false := by rfl) (hp1 : (backTo q1 (starEach [] X.env)).any (·.1) = false := by rfl)
    (hs1 : starEach [.Call (.Name "set" p2) [e] [] q2] X.env = (false, eval (.Call (.Name "set" p2) [e] [] q2) X.env) :: starEach [] X.env := by rfl) :
    VE X (.Call (.Name "sorted" p1) [.Call (.Name "set" p2) [e] [] q2] [] q1) (mSortSet m) :=
  (pe_callB (cr_sortedSet hc) hg1 hm1 hb1 (pa_cons (pe_callTy (cr_setL hc) hg2 hm2 hb2 (pa_cons he pa_nil hs) (by decide) (by decide) hs hp) pa_nil hs1) (by decide) (by decide) hs1 hp1).imp fun _ _ _ => sortSet_run
end
section
variable {β γ : Type} {env e : Sl} {R : Option β} {m : ME} {K : Res → Sl → Option β}
def pDsort (l : List Int) : Option (List Int) := if l.length ≤ 1000 ∧ l.eraseDups.length < 64 then some (dsort l) else none
def sortSetK (r : Res) (e : Sl) (K : Res → Sl → Option β) : Option β := (rdv e (stab r)).bind fun d => match d with
  | .list ds => (intsD ds).bind fun ns => (pDsort ns).bind fun l => K (.new (.lst (l.map eI))) e
  | _ => none
theorem c_sortSet (k : bnd (m env) (fun r e => sortSetK r e K) = R) : bnd (mSortSet m env) K = R := by
  rw [← k]; unfold mSortSet bnd sortSetK
  cases m env with
  | none => rfl
  | some p =>
    simp only [Option.bind_some]
    cases rdv p.2 (stab p.1) with
    | none => rfl
    | some d =>
      cases d with
      | list ds =>
        simp only [Option.bind_some]
        cases intsD ds with
        | none => rfl
        | some ns =>
          simp only [Option.bind_some, pDsort]
          split <;> rfl
      | _ => rfl
theorem c_sortSetK {l : List Int} {r : Res} {k : List Int → Option γ} {h : γ → Option β} (h1 : rdv e (stab r) = some (.list (l.map .int))) (p : ∀ l' : List Int, K (.new (.lst (l'.map eI))) e = (k l').bind h) : sortSetK r e K = ((pDsort l).bind k).bind h := by
  unfold sortSetK; rw [h1]
  simp only [Option.bind_some, intsD_map]
  cases pDsort l with
  | none => rfl
  | some l' => exact p l'
end
/-! ### None or a thing -/
section
variable {β γ α' τ : Type} {α : Type} {K : α → α' → Option β}
theorem c_isN {x : Option τ} {a b : Option (α × α')} {A : Option γ} {B : τ → Option γ} {h : γ → Option β} (p : x = none → bnd a K = A.bind h) (q : ∀ v, x = some v → bnd b K = (B v).bind h) : bnd (if x.isNone = true then a else b) K = (x.elim A B).bind h := by
  cases x with
  | none => exact p rfl
  | some v => exact q v rfl
theorem c_isS {x : Option τ} {a b : Option (α × α')} {A : Option γ} {B : τ → Option γ} {h : γ → Option β} (p : ∀ v, x = some v → bnd a K = (B v).bind h) (q : x = none → bnd b K = A.bind h) : bnd (if x.isSome = true then a else b) K = (x.elim A B).bind h := by
  cases x with
  | none => exact q rfl
  | some v => exact p v rfl
theorem c_isNJ {ω : Type} {x : Option τ} {a b : Option (α × α')} {A : Option ω} {B : τ → Option ω} {k : ω → Option γ} {h : γ → Option β} (out : ω → α × α') (p : x = none → bnd a (fun x y => some (x, y)) = A.bind fun z => some (out z)) (q : ∀ v, x = some v → bnd b (fun x y => some (x, y)) = (B v).bind fun z => some (out z)) (w : ∀ z, K (out z).1 (out z).2 = (k z).bind h) : bnd (if x.isNone = true then a else b) K = ((x.elim A B).bind k).bind h := by
  cases x with
  | none => exact c_ifJ (c := true) (b := a) out (p rfl) (p rfl) w
  | some v => exact c_ifJ (c := true) (a := b) (b := b) out (q v rfl) (q v rfl) w
theorem c_isSJ {ω : Type} {x : Option τ} {a b : Option (α × α')} {A : Option ω} {B : τ → Option ω} {k : ω → Option γ} {h : γ → Option β} (out : ω → α × α') (p : ∀ v, x = some v → bnd a (fun x y => some (x, y)) = (B v).bind fun z => some (out z)) (q : x = none → bnd b (fun x y => some (x, y)) = A.bind fun z => some (out z)) (w : ∀ z, K (out z).1 (out z).2 = (k z).bind h) : bnd (if x.isSome = true then a else b) K = ((x.elim A B).bind k).bind h := by
  cases x with
  | none => exact c_ifJ (c := true) (a := b) (b := b) out (q rfl) (q rfl) w
  | some v => exact c_ifJ (c := true) (b := a) out (p v rfl) (p v rfl) w
theorem c_while {n : Nat} {mt : MT} {b : MS} {env : Sl} {K : Fl → Sl → Option β} {R : Option β} (k : bnd (whileL mt b n env) K = R) : bnd (mWhile n mt b env) K = R := k
theorem c_tmap {mt : MT} {env e2 : Sl} {Y : Option Bool} (h : bnd (mt env) (fun c e => some (c, e)) = Y.bind fun z => some (z, e2)) : mt env = Y.map fun c => (c, e2) := c_map h
theorem c_bmap {b : MS} {env : Sl} {Y : Option τ} {out : τ → Fl × Sl} (h : bnd (b env) (fun f e => some (f, e)) = Y.bind fun z => some (out z)) : b env = Y.map out := c_map h
end
end Cm
namespace Cm
open PySem L2
/-! ### a list of one's own, lent for one expression -/
def flatM : Slot → Bool
  | .own (.lst ds) => ds.all flatD
  | .io _ (.lst ds) => ds.all flatD
  | .own (.dct es) => es.all fun p => flatD p.2
  | .io _ (.dct es) => es.all fun p => flatD p.2
  | _ => true
/-- all that may be changed, but one slot, holds flat things -/
def FlatBut (i : Nat) (env : Sl) : Prop := ∀ (j : Nat) s, env[j]? = some s → s.mut → j = i ∨ flatM s = true
open Classical in
noncomputable def mLend (i : Nat) (m : ME) : ME := fun env => match env[i]? with
  | some (.own c) => (m (env.set i (.val c.dat))).bind fun p => if ((p.2 = env.set i (.val c.dat) ∧ FlatBut i env) ∧ flatR p.1 = true) ∧ ∀ M, ¬ HasSto env M then some (p.1, env) else none
  | _ => none
section
variable {X : Cx} {K : PySem.W.Frag}
theorem dv_flat {Hk Hk' : Hp} {v : V} {d : PyData} (h : flatD d = true) (q : Dv K Hk v d) : Dv K Hk' v d := by
  cases q with
  | non => exact .non
  | bl b => exact .bl b
  | int i => exact .int i
  | str x => exact .str x
  | _ => cases h
theorem dvAll_flat {Hk Hk' : Hp} : ∀ {vs : List V} {ds : List PyData}, ds.all flatD = true → DvAll K Hk vs ds → DvAll K Hk' vs ds
  | _, _, _, .nil => .nil
  | _, _, h, .cons h1 h2 => by
    rw [List.all_cons, Bool.and_eq_true] at h
    exact .cons (dv_flat h.1 h1) (dvAll_flat h.2 h2)
theorem dvKv_flat {Hk Hk' : Hp} : ∀ {vs : List (Key × V)} {ds : List (PyData × PyData)}, (ds.all fun p => flatD p.2) = true → DvKv K Hk vs ds → DvKv K Hk' vs ds
  | _, _, _, .nil => .nil
  | _, _, h, .cons h1 h2 => by
    rw [List.all_cons, Bool.and_eq_true] at h
    exact .cons (dv_flat h.1 h1) (dvKv_flat h.2 h2)
theorem cell_flat {Hk Hk' H : Hp} {a : Addr} {c : Cell} (h : flatM (.own c) = true) (q : CellAt K Hk H a c) : CellAt K Hk' H a c := by
  cases c with
  | lst ds =>
    obtain ⟨vs, q1, q2⟩ := q
    exact ⟨vs, q1, dvAll_flat h q2⟩
  | dct es =>
    obtain ⟨vs, q1, q2⟩ := q
    exact ⟨vs, q1, dvKv_flat h q2⟩
theorem flatM_io {n : Nat} {c : Cell} (h : flatM (.io n c) = true) : flatM (.own c) = true := by
  cases c <;> exact h
theorem flatR_own {c : Cell} (h : flatR (.new c) = true) : flatM (.own c) = true := by
  cases c <;> exact h
theorem lend_run {i : Nat} {m : ME} {σ : St} {H : Hp} {Q : VK} (h : tE K (mLend i m) σ H Q) : tE K m σ H Q := by
  obtain ⟨B, env, Hk, r, env', R, hm, k⟩ := h
  unfold mLend at hm
  split at hm
  · rename_i c hi
    obtain ⟨⟨r1, e1⟩, h1, hm⟩ := Option.bind_eq_some_iff.mp hm
    split at hm
    · rename_i hc
      obtain ⟨⟨⟨h2, h3⟩, h4⟩, h5⟩ := hc
      cases hm
      dsimp only at h2 h4
      subst h2
      obtain ⟨a, Hk', ha, R', sm, dv⟩ := R.freezeC hi
      refine ⟨B, _, Hk', r1, _, R', h1, fun v Hk3 H3 R3 s3 o3 => ?_⟩
      have big : KSame Hk Hk3 := sm.trans s3
      obtain ⟨o, g1, a', e1, q1, q2, q3⟩ := R.slot i _ hi
      rw [ha] at g1
      cases g1
      cases e1
      obtain ⟨ob, q4⟩ := q3.there
      have hk' : ∃ o, Hk' a = some o := by
        cases c with
        | lst ds =>
          cases dv with
          | lst w1 w2 => exact ⟨_, w1⟩
        | dct es =>
          cases dv with
          | dct w1 w2 =>
            rcases w1 with w1 | ⟨o, w1⟩
            · exact ⟨_, w1⟩
            · exact ⟨_, w1⟩
      obtain ⟨ob', hk'⟩ := hk'
      have hvs : H3 a = some ob := by
        have := R'.ex _ _ hk'
        rw [q4] at this
        cases this
        exact R3.ex _ _ (s3.s _ _ hk')
      have R2 : Rel K B env σ Hk H3 := by
        refine ⟨big.s.trans R3.ex, R.kn, R.fr, R3.kp, fun b hb => ⟨(R3.oin b hb).1, (R.oin b hb).2⟩, R.o0, R.len, fun j s hj => ?_, R.sep, fun M hM => absurd hM (h5 M), fun n b hb => ⟨(R3.pin n b (big.p _ _ hb)).1, (R.pin n b hb).2⟩, R.psep⟩
        obtain ⟨o, g1, g2⟩ := R.slot j s hj
        refine ⟨o, g1, ?_⟩
        cases s with
        | no => trivial
        | val d => exact g2
        | scr ns => exact g2
        | pin a => exact g2
        | pv p => exact g2
        | sto M => trivial
        | own c' =>
          obtain ⟨b, rfl, z1, z2, z3⟩ := g2
          by_cases hji : j = i
          · subst hji
            rw [hi] at hj
            cases hj
            rw [ha] at g1
            cases g1
            exact ⟨a, rfl, z1, z2, z3.mono (.refl _) fun o' e => by rw [q4] at e; cases e; exact hvs⟩
          · have hf : flatM (.own c') = true := (h3 j _ hj trivial).resolve_left hji
            have hj2 : (env.set i (.val c.dat))[j]? = some (.own c') := by
              rw [List.getElem?_set_ne (fun z => hji z.symm)]
              exact hj
            obtain ⟨o2, y1, b2, e2, y2, y3, y4⟩ := R3.slot j _ hj2
            rw [g1] at y1
            cases y1
            cases e2
            exact ⟨b, rfl, z1, z2, cell_flat hf y4⟩
        | io n c' =>
          obtain ⟨b, rfl, z1, z2, z3⟩ := g2
          have hji : j ≠ i := fun e => by
            subst e
            rw [hi] at hj
            cases hj
          have hf : flatM (.io n c') = true := (h3 j _ hj trivial).resolve_left hji
          have hj2 : (env.set i (.val c.dat))[j]? = some (.io n c') := by
            rw [List.getElem?_set_ne (fun z => hji z.symm)]
            exact hj
          obtain ⟨o2, y1, b2, e2, y2, y3, y4⟩ := R3.slot j _ hj2
          rw [g1] at y1
          cases y1
          cases e2
          exact ⟨b, rfl, z1, z2, cell_flat (flatM_io hf) y4⟩
      refine k v Hk H3 R2 (.refl _) ?_
      cases r1 with
      | dat d => exact dv_flat h4 o3
      | slt n => cases h4
      | pv n => cases h4
      | new c' =>
        obtain ⟨p, rfl, w1, w2, w3, w6, w5⟩ := o3
        have hp : Hk p = none := big.free w1
        refine ⟨p, rfl, hp, w2, cell_flat (flatR_own h4) w3, fun n e => w6 n (big.p _ _ e), fun j s hj hm hs => ?_⟩
        by_cases hji : j = i
        · subst hji
          rw [ha] at hs
          cases hs
          rw [s3.s _ _ hk'] at w1
          cases w1
        · exact w5 j s (by rw [List.getElem?_set_ne (fun z => hji z.symm)]; exact hj) hm hs
    · cases hm
  · cases hm
theorem ve_lend {i : Nat} {e : Expr} {m : ME} (h : VE X e m) : VE X e (mLend i m) := h.imp fun _ _ _ => lend_run
end
section
variable {β γ : Type} {env e e2 : Sl} {R : Option β} {m : ME} {K : Res → Sl → Option β} {i : Nat}
open Classical in
theorem c_lend {c : Cell} {τ : Type} {Y : Option τ} {out : τ → Res} {k : τ → Option γ} {h : γ → Option β} (h1 : env[i]? = some (.own c)) (h2 : env.set i (.val c.dat) = e2) (h3 : FlatBut i env) (h5 : ∀ M, ¬ HasSto env M := by intro M h; cases h) (q : m e2 = Y.map fun z => (out z, e2)) (hf : ∀ z, flatR (out z) = true) (p : ∀ z, K (out z) env = (k z).bind h) : bnd (mLend i m env) K = (Y.bind k).bind h := by
  subst h2
  unfold mLend
  rw [h1]
  simp only [q]
  cases Y with
  | none => rfl
  | some z =>
    rw [Option.map_some, Option.bind_some, if_pos ⟨⟨⟨rfl, h3⟩, hf z⟩, h5⟩]
    exact p z
end
theorem flatBut_of {i : Nat} {env : Sl} (h : ∀ s ∈ env.take i ++ env.drop (i + 1), s.mut → flatM s = true) : FlatBut i env := by
  intro j s hj hm
  by_cases e : j = i
  · exact .inl e
  · refine .inr (h s ?_ hm)
    rcases Nat.lt_or_gt_of_ne e with hl | hg
    · refine List.mem_append.mpr (.inl ?_)
      exact List.mem_of_getElem? (i := j) (by rw [List.getElem?_take_of_lt hl]; exact hj)
    · refine List.mem_append.mpr (.inr ?_)
      exact List.mem_of_getElem? (i := j - (i + 1)) (by rw [List.getElem?_drop, show i + 1 + (j - (i + 1)) = j by omega]; exact hj)
theorem flat_eO {α : Type} {e : α → PyData} {z : Option α} (h : ∀ x, flatD (e x) = true) : flatD (eO e z) = true := by
  cases z with
  | none => rfl
  | some x => exact h x
section
variable {X : Cx} {js : List Nat} {g : MG} {t : MT} {me : ME} {mi : MI} {pos : Pos}
/-- name = [..], over a list that is lent -/
theorem vs_setLcL {i q : Nat} {y : Str} {py spos : Pos} {elt tg iter : Expr} {ifs : List Expr} {scope : Scope} {own : List (Str × Nat)} (hN : X.N.Nodup) (hi : VI X tg iter mi) (ok : BlkOk X.N X.env.scope scope own)
    (hg : ∀ (s : Shared) (H : Hp) (C : Addr) (cl : List (Str × Addr)) (fp : List Addr), VG (X.blk s H scope (compEnvC scope cl C X.env) fp) tg js g) (ht : ∀ (s : Shared) (H : Hp) (C : Addr) (cl : List (Str × Addr)) (fp : List Addr), VTs (X.blk s H scope (compEnvC scope cl C X.env) fp) ifs t)
    (he : ∀ (s : Shared) (H : Hp) (C : Addr) (cl : List (Str × Addr)) (fp : List Addr), VE (X.blk s H scope (compEnvC scope cl C X.env) fp) elt me) (hj : ∀ j, j ∈ js → j ∈ own.map (·.2))
    (hsw : swapsWith (.ListComp elt [⟨tg, iter, ifs, 0⟩] scope pos) (some (.Name y py)) spos.line X.env = pure true) (hy : X.N[i]? = some y := by rfl) (hyl : X.env.scope.names.lookup y = some .local := by rfl) (hc : X.calm = true := by rfl) (hs : ∀ x, foldedSetIterable iter X.env x = pure x := by intro _; rfl) :
    VS X (.Assign [.Name y py] (.ListComp elt [⟨tg, iter, ifs, 0⟩] scope pos) spos) (mSet i (mLend q (mLc mi g t me (own.map (·.2))))) :=
  fun W _ => (ps_setLc hc hN hy hyl hsw hi ok hg ht (fun s H C cl fp => ve_frz (he s H C cl fp)) hs).imp fun D σ H h => lc_run hj (lend_run (set_run h))
end
end Cm
namespace Cm
open PySem L2
/-! ### truths by identity -/
section
variable {X : Cx} {K : PySem.W.Frag}
def rIsB (neg : Bool) : R2 := fun x y H Q => ∃ a b, x = .bl a ∧ y = .bl b ∧ Q (.bl (neg ^^ decide (a = b))) H
theorem op_isB : OpR X (compareOp .Is) (rIsB false) := by
  intro pins s σ H x y v u Q I rx ry h
  obtain ⟨a, b, rfl, rfl, q⟩ := h
  cases rx; cases ry
  refine wpAny_is_plain (by cases a <;> cases b <;> rfl) ⟨.bl _, H, I, ?_, q⟩
  cases a <;> cases b <;> rfl
theorem op_notB : OpR X (compareOp .IsNot) (rIsB true) := by
  intro pins s σ H x y v u Q I rx ry h
  obtain ⟨a, b, rfl, rfl, q⟩ := h
  cases rx; cases ry
  refine wpAny_isNot_plain (by cases a <;> cases b <;> rfl) ⟨.bl _, H, I, ?_, q⟩
  cases a <;> cases b <;> rfl
def gIsB (neg : Bool) : PyData → PyData → Option Res
  | .bool a, .bool b => some (.dat (.bool (neg ^^ decide (a = b))))
  | _, _ => none
theorem od_isB {neg : Bool} : OpD K (rIsB neg) (gIsB neg) := by
  intro Hk H x y dx dy res Q e vx vy h q
  unfold gIsB at h
  split at h
  · cases h
    exact ⟨_, _, vx.bool, vy.bool, q _ _ (.inl ⟨rfl, .bl _⟩)⟩
  · cases h
/-! ### tuples: joined, cut -/
def gCatT : PyData → PyData → Option Res
  | .tuple xs, .tuple ys => if xs ≠ [] ∧ xs.length + ys.length ≤ 100000 then some (.dat (.tuple (xs ++ ys))) else none
  | _, _ => none
theorem od_catT : OpD K (rCatT K) gCatT := by
  intro Hk H x y dx dy res Q e vx vy h q
  unfold gCatT at h
  split at h
  · rename_i xs ys
    split at h
    · rename_i hz
      cases h
      obtain ⟨a, vs, rfl, h1, h2⟩ := vx.tup e
      obtain ⟨b, ws, rfl, h3, h4⟩ := vy.tup e
      have hv : vs ≠ [] := fun z => by
        subst z
        cases h2
        exact hz.1 rfl
      refine ⟨a, b, vs, ws, rfl, rfl, h1, h3, hv, by rw [h2.len, h4.len]; exact sz_of hz.2, fun hw => ?_, fun hw p hp => ?_⟩
      · subst hw
        cases h4
        rw [List.append_nil] at q
        refine q _ _ (.inl ⟨rfl, ?_⟩)
        rcases vx with vx | ⟨_, c, _, z, _⟩
        · exact vx
        · cases c <;> cases z
      · exact q _ _ (.inr ⟨p, _, _, rfl, rfl, hp, rfl, h2.append h4⟩)
    · cases h
  · cases h
end
/-! ### things of any make: items, comparisons -/
def pIxD (d : PyData) (i : Int) : Option PyData := match d with
  | .list ds => atI ds i
  | .tuple ds => atI ds i
  | .str z => if z.length ≤ 100000 then (atI z.cps.toList i).map fun c => .str ⟨#[c]⟩ else none
  | _ => none
theorem x_ixD {d : PyData} {i : Int} : gIx d (.int i) = (pIxD d i).map .dat := by
  cases d with
  | str z =>
    simp only [gIx, pIxD]
    split
    · rw [Option.map_map]; rfl
    · rfl
  | _ => rfl
def pCmpD (p : Int → Int → Bool) (a b : PyData) : Option Bool := match a, b with
  | .int i, .int j => some (p i j)
  | _, _ => none
theorem x_cmpD {p : Int → Int → Bool} {a b : PyData} : gCmp p a b = (pCmpD p a b).map (fun z => .dat (.bool z)) := by
  unfold gCmp pCmpD
  cases a <;> cases b <;> rfl
def pSubD (a b : PyData) : Option Int := match a, b with
  | .int i, .int j => some (i - j)
  | _, _ => none
theorem x_subD {a b : PyData} : gMinus a b = (pSubD a b).map (fun z => .dat (.int z)) := by
  unfold gMinus pSubD
  cases a <;> cases b <;> rfl
def pDivD (a b : PyData) : Option Int := match a, b with
  | .int i, .int j => pDiv i j
  | _, _ => none
theorem x_divD {a b : PyData} : gDiv a b = (pDivD a b).map (fun z => .dat (.int z)) := by
  unfold gDiv pDivD
  cases a <;> cases b <;> first | rfl | skip
  simp only [pDiv]
  split <;> rfl
def pRngD (d : PyData) : Option (List Int) := match d with
  | .int i => pRng i
  | _ => none
theorem c_rngDK {β γ : Type} {K : List PyData → Sl → Option β} {e : Sl} {d : PyData} {rs : List Res} {k : List Int → Option γ} {h : γ → Option β} (h1 : rdAll e rs = some [d]) (p : ∀ l, K (l.map eI) e = (k l).bind h) : rngK rs e K = ((pRngD d).bind k).bind h := by
  cases d with
  | int i => exact c_rngK h1 p
  | _ => unfold rngK; rw [h1]; rfl
def pInD (neg : Bool) (x : PyData) (ds : List PyData) : Option Bool := if flatD x = true then (if ds.all flatD = true then some (neg ^^ inD x ds) else none) else none
theorem x_inDL {neg : Bool} {x : PyData} {ds : List PyData} : gIn neg x (.list ds) = (pInD neg x ds).map (fun z => .dat (.bool z)) := by
  unfold gIn pInD
  split
  · dsimp only
    split <;> rfl
  · rfl
theorem x_isB0 {a b : Bool} : gIsB false (.bool a) (.bool b) = some (.dat (.bool (decide (a = b)))) := by simp [gIsB]
theorem x_isB1 {a b : Bool} : gIsB true (.bool a) (.bool b) = some (.dat (.bool (!decide (a = b)))) := by simp [gIsB]
theorem x_catT {xs ys : List PyData} (h : xs ≠ [] ∧ xs.length + ys.length ≤ 100000) : gCatT (.tuple xs) (.tuple ys) = some (.dat (.tuple (xs ++ ys))) := by
  simp only [gCatT, if_pos h]
theorem cut_whole {ds : List PyData} {lo hi : Option Int} (h : HT.sIx ds.length 0 lo = 0 ∧ HT.sIx ds.length ds.length hi = ds.length) : cutD ds lo hi = ds := by
  unfold cutD
  rw [h.1, h.2, List.drop_zero, Nat.sub_zero, List.take_length]
def gSlT : PyData → Option Int → Option Int → Option Res
  | .tuple ds, lo, hi => some (.dat (.tuple (cutD ds lo hi)))
  | _, _, _ => none
section
variable {K : PySem.W.Frag}
theorem sd_tup : SlD K (rSlA K) gSlT := by
  intro Hk H x dx lo hi res Q e vx h q
  unfold gSlT at h
  split at h
  · rename_i ds
    cases h
    obtain ⟨a, vs, rfl, h1, h2⟩ := vx.tup e
    refine ⟨a, vs, rfl, h1, fun hw => ?_, fun _ p hp => ?_⟩
    · rw [h2.len] at hw
      rw [cut_whole hw] at q
      refine q _ _ (.inl ⟨rfl, ?_⟩)
      rcases vx with vx | ⟨_, c, _, z, _⟩
      · exact vx
      · cases c <;> cases z
    · exact q _ _ (.inr ⟨p, _, _, rfl, rfl, hp, rfl, cut_dv h2 lo hi⟩)
  · cases h
end
theorem c_chain2 {β : Type} {K : Res → Sl → Option β} {R : Option β} {g' : PyData → PyData → Option Res} {mc : ME} {e : Sl} {r2 : Res} (k : bnd (mc e) (fun r3 e3 => opK g' r2 r3 e3 K) = R) : bnd ((mc e).bind (fun t => (rdv t.2 (stab r2)).bind fun dy => (rdv t.2 (stab t.1)).bind fun dz => (g' dy dz).map fun r => (r, t.2))) K = R := by
  rw [← k]; unfold bnd opK
  cases mc e with
  | none => rfl
  | some t =>
    simp only [Option.bind_some]
    cases rdv t.2 (stab r2) with
    | none => rfl
    | some dy =>
      simp only [Option.bind_some]
      cases rdv t.2 (stab t.1) with
      | none => rfl
      | some dz =>
        simp only [Option.bind_some]
        cases g' dy dz <;> rfl
end Cm
namespace Cm
open PySem L2
/-! ### the greatest of a list, of a tuple -/
def pMaxL : List Int → Option Int
  | [] => none
  | x :: xs => some (xs.foldl max x)
theorem greatest_fold : ∀ (xs : List Int) (x : Int), xs.foldl max x ∈ x :: xs ∧ ∀ y ∈ x :: xs, y ≤ xs.foldl max x
  | [], x => ⟨List.mem_cons_self, fun y hy => by rw [List.mem_singleton] at hy; rw [hy]; exact Int.le_refl _⟩
  | b :: xs, x => by
    rw [List.foldl_cons]
    obtain ⟨h1, h2⟩ := greatest_fold xs (max x b)
    have h3 := h2 _ List.mem_cons_self
    refine ⟨?_, fun y hy => ?_⟩
    · rcases List.mem_cons.mp h1 with h1 | h1
      · rw [h1]
        rcases (show max x b = x ∨ max x b = b by omega) with e | e <;> rw [e]
        · exact List.mem_cons_self
        · exact List.mem_cons_of_mem _ List.mem_cons_self
      · exact List.mem_cons_of_mem _ (List.mem_cons_of_mem _ h1)
    · rcases List.mem_cons.mp hy with rfl | hy
      · omega
      · rcases List.mem_cons.mp hy with rfl | hy
        · omega
        · exact h2 y (List.mem_cons_of_mem _ hy)
theorem pMaxL_spec {ns : List Int} {m : Int} (h : pMaxL ns = some m) : m ∈ ns ∧ ∀ y ∈ ns, y ≤ m := by
  cases ns with
  | nil => cases h
  | cons x xs =>
    cases h
    exact greatest_fold xs x
section
variable {X : Cx} {K : PySem.W.Frag}
def gMaxL : List PyData → Option Res
  | [.list ds] => (intsD ds).bind fun ns => (pMaxL ns).map fun m => .dat (.int m)
  | _ => none
theorem cd_maxL : CallD K (rMax K) gMaxL := by
  intro Hk H vs ds res Q e hv h q
  unfold gMaxL at h
  split at h
  · obtain ⟨ns, h1, h⟩ := Option.bind_eq_some_iff.mp h
    obtain ⟨m, h2, rfl⟩ := Option.map_eq_some_iff.mp h
    obtain ⟨m1, m2⟩ := pMaxL_spec h2
    cases hv with
    | cons v1 v2 =>
      cases v2
      obtain ⟨a, ws, rfl, g1, g2⟩ := v1.list e
      rw [ints_dv g2 h1] at g1
      refine ⟨a, ns, rfl, SqL.of g1, List.length_pos_of_mem m1, fun m' hm hy => ?_⟩
      have e1 := hy m m1
      have e2 := m2 m' hm
      rw [show m' = m by omega]
      exact q _ _ (.inl ⟨rfl, .int _⟩)
  · cases h
def rMaxT (K : PySem.W.Frag) : List V → Hp → VK → Prop := fun vs H Q => ∃ (a : Addr) (ns : List Int) (m : Int), vs = [V.ref a] ∧ SqT K H a (ns.map V.int) ∧ pMaxL ns = some m ∧ Q (.int m) H
theorem ints_read {h : Heap} : ∀ {ns : List Int} {its : List Value}, Vals (ns.map V.int) its → ReadsAll h its (ns.map PyData.int) []
  | [], _, r => by cases r; exact .nil
  | n :: ns, _, r => by
    cases r with
    | cons r1 r2 =>
      obtain ⟨t, rfl⟩ := r1
      exact ReadsAll.cons (as := []) (bs := []) (.int n t) (ints_read r2)
theorem ints_alike (ns : List Int) : PySem.W.AlikeAll (ns.map PyData.int) := by
  refine ⟨fun x hx y hy => ?_, fun x hx => ?_⟩
  · obtain ⟨i, _, rfl⟩ := List.mem_map.mp hx
    obtain ⟨j, _, rfl⟩ := List.mem_map.mp hy
    rfl
  · obtain ⟨i, _, rfl⟩ := List.mem_map.mp hx
    exact fun z => nomatch z
theorem ints_flat : ∀ ns : List Int, PyData.depthAll (ns.map PyData.int) = 0
  | [] => by simp [PyData.depthAll]
  | n :: ns => by simp [PyData.depthAll, PyData.depth, ints_flat ns]
theorem cr_maxT (hc : X.calm = true) (hu : X.A.units + 64 < cLine) : CallR X (.builtin "max") (rMaxT X.K) := by
  intro pins s σ H vs us Q I r h
  obtain ⟨a, ns, m, rfl, hs, hm, q⟩ := h
  obtain ⟨its, rv, hl, _⟩ := I.tuple hs
  rw [Vals.ref1 r]
  cases ns with
  | nil => cases hm
  | cons n ns =>
    cases hm
    refine PySem.W.max_tuple_data (x := .int n) (xs := ns.map .int) (I.ok.hd hc) hl (by simpa using ints_read rv) (ints_alike (n :: ns)) ?_ fun i v h' tk bs hv hr hk => ?_
    · have := ints_flat (n :: ns)
      rw [List.map_cons] at this
      rw [this]
      omega
    · rw [PySem.W.maxD_ints] at hr
      cases hr with
      | int _ t => exact ⟨.int _, H, I.kept hk, ⟨_, rfl⟩, q⟩
def gMaxT : List PyData → Option Res
  | [.tuple ds] => (intsD ds).bind fun ns => (pMaxL ns).map fun m => .dat (.int m)
  | _ => none
theorem cd_maxT : CallD K (rMaxT K) gMaxT := by
  intro Hk H vs ds res Q e hv h q
  unfold gMaxT at h
  split at h
  · obtain ⟨ns, h1, h⟩ := Option.bind_eq_some_iff.mp h
    obtain ⟨m, h2, rfl⟩ := Option.map_eq_some_iff.mp h
    cases hv with
    | cons v1 v2 =>
      cases v2
      obtain ⟨a, ws, rfl, g1, g2⟩ := v1.tup e
      rw [ints_dv g2 h1] at g1
      exact ⟨a, ns, m, rfl, g1, h2, q _ _ (.inl ⟨rfl, .int _⟩)⟩
  · cases h
end
theorem x_maxL {l : List Int} : gMaxL [.list (l.map .int)] = (pMaxL l).map (fun z => .dat (.int z)) := by
  simp only [gMaxL, intsD_map]; rfl
theorem x_maxT3 {i j k : Int} : gMaxT [.tuple [.int i, .int j, .int k]] = some (.dat (.int (max (max i j) k))) := rfl
/-! ### things of any make: cut, joined, times -/
def pSlD (d : PyData) (lo hi : Option Int) : Option PyData := match d with
  | .tuple ds => some (.tuple (cutD ds lo hi))
  | _ => none
theorem x_slD {d : PyData} {lo hi : Option Int} : gSlT d lo hi = (pSlD d lo hi).map .dat := by
  cases d <;> rfl
def pCatTD (a b : PyData) : Option PyData := match a, b with
  | .tuple xs, .tuple ys => if xs ≠ [] ∧ xs.length + ys.length ≤ 100000 then some (.tuple (xs ++ ys)) else none
  | _, _ => none
theorem x_catTD {a b : PyData} : gCatT a b = (pCatTD a b).map .dat := by
  cases a <;> cases b <;> first | rfl | skip
  simp only [gCatT, pCatTD]
  split <;> rfl
def gMulI : PyData → PyData → Option Res
  | .int i, .int j => if (-(2 ^ 64) < i ∧ i < 2 ^ 64) ∨ (-(2 ^ 64) < j ∧ j < 2 ^ 64) then some (.dat (.int (i * j))) else none
  | _, _ => none
theorem od_mulI {K : PySem.W.Frag} : OpD K (rI CMul (fun i j => .int (i * j))) gMulI := by
  intro Hk H x y dx dy res Q e vx vy h q
  unfold gMulI at h
  split at h
  · split at h
    · rename_i hz
      cases h
      exact ⟨_, _, vx.int, vy.int, hz, q _ _ (.inl ⟨rfl, .int _⟩)⟩
    · cases h
  · cases h
def pMulD (a b : PyData) : Option Int := match a, b with
  | .int i, .int j => pMul i j
  | _, _ => none
theorem x_mulD {a b : PyData} : gMulI a b = (pMulD a b).map (fun z => .dat (.int z)) := by
  cases a <;> cases b <;> first | rfl | skip
  simp only [gMulI, pMulD, pMul]
  split <;> rfl
end Cm
namespace Cm
open PySem L2
/-! ### one rule or the other -/
section
variable {X : Cx} {K : PySem.W.Frag}
theorem ve_alt {e : Expr} {m1 m2 : ME} (h1 : VE X e m1) (h2 : VE X e m2) : VE X e (fun env => (m1 env).or (m2 env)) := ⟨fun pins s σ H Q I q => by
  obtain ⟨B, env, Hk, r, env', R, hm, k⟩ := q
  cases e1 : m1 env with
  | some z =>
    simp only [e1, Option.some_or] at hm
    exact h1.run pins s σ H Q I ⟨B, env, Hk, r, env', R, by rw [e1]; exact hm, k⟩
  | none =>
    simp only [e1, Option.none_or] at hm
    exact h2.run pins s σ H Q I ⟨B, env, Hk, r, env', R, hm, k⟩⟩
theorem vi_alt {tg e : Expr} {m1 m2 : MI} (h1 : VI X tg e m1) (h2 : VI X tg e m2) : VI X tg e (fun env => (m1 env).or (m2 env)) := ⟨fun pins s σ H Q I q => by
  obtain ⟨B, env, Hk, r, env', R, hm, k⟩ := q
  cases e1 : m1 env with
  | some z =>
    simp only [e1, Option.some_or] at hm
    exact h1.run pins s σ H Q I ⟨B, env, Hk, r, env', R, by rw [e1]; exact hm, k⟩
  | none =>
    simp only [e1, Option.none_or] at hm
    exact h2.run pins s σ H Q I ⟨B, env, Hk, r, env', R, hm, k⟩⟩
/-- a list or a tuple is walked -/
def mItD (m : ME) : MI := fun env => (mItL m env).or (mItT m env)
theorem vi_dyn {tg e : Expr} {m : ME} (h : VE X e m) : VI X tg e (mItD m) := vi_alt (vi_list h) (vi_tup h)
end
def pItD (d : PyData) : Option (List PyData) := match d with
  | .list ds => some ds
  | .tuple ds => some ds
  | _ => none
section
variable {β γ : Type} {env e e2 : Sl} {R : Option β} {m : ME} {ms : MA} {K : List PyData → Sl → Option β} {ds : List PyData}
def itDK (r : Res) (e : Sl) (K : List PyData → Sl → Option β) : Option β := match r with
  | .dat d => (pItD d).bind fun l => K (l.map eD) e
  | _ => none
theorem c_itD (k : bnd (m env) (fun r e => bnd (frz (r, e)) fun r e => itDK r e K) = R) : bnd (mItD m env) K = R := by
  rw [← k]; unfold mItD mItL mItT mFrz bnd
  cases m env with
  | none => rfl
  | some p =>
    simp only [Option.bind_some]
    cases frz p with
    | none => rfl
    | some q =>
      cases q with
      | mk r e =>
        cases r with
        | dat d => cases d <;> simp [itDK, pItD]
        | _ => rfl
theorem c_itDK {d : PyData} {k : List PyData → Option γ} {h : γ → Option β} (p : ∀ l : List PyData, K (l.map eD) e = (k l).bind h) : itDK (.dat d) e K = ((pItD d).bind k).bind h := by
  show ((pItD d).bind fun l => K (l.map eD) e) = _
  cases pItD d with
  | none => rfl
  | some l => exact p l
end
theorem x_listD {d : PyData} : gList [d] = (pItD d).map (fun l => .new (.lst (l.map eD))) := by
  cases d <;> simp [gList, pItD]
/-! ### tuple(xs) -/
def gTuple : List PyData → Option Res
  | [.list ds] => some (.dat (.tuple ds))
  | [.tuple ds] => some (.dat (.tuple ds))
  | _ => none
section
variable {K : PySem.W.Frag}
theorem cd_tuple : CallD K (fun xs H Q => ∃ p ys, xs = [.ref p] ∧ ((SqL K H p ys ∧ ∀ l, H l = none → Q (.ref l) (upd H l (.tup ys))) ∨ (SqT K H p ys ∧ Q (.ref p) H))) gTuple := by
  intro Hk H vs ds res Q e hv h q
  unfold gTuple at h
  split at h
  · cases h
    cases hv with
    | cons v1 v2 =>
      cases v2
      obtain ⟨a, ws, rfl, g1, g2⟩ := v1.list e
      exact ⟨a, ws, rfl, .inl ⟨SqL.of g1, fun l hl => q _ _ (.inr ⟨l, ws, _, rfl, rfl, hl, rfl, g2⟩)⟩⟩
  · cases h
    cases hv with
    | cons v1 v2 =>
      cases v2
      obtain ⟨a, ws, rfl, g1, g2⟩ := v1.tup e
      refine ⟨a, ws, rfl, .inr ⟨g1, q _ _ (.inl ⟨rfl, ?_⟩)⟩⟩
      rcases v1 with v1 | ⟨_, c, _, z, _⟩
      · exact v1
      · cases c <;> cases z
  · cases h
end
theorem x_tupL {ds : List PyData} : gTuple [.list ds] = some (.dat (.tuple ds)) := rfl
theorem x_tupT {ds : List PyData} : gTuple [.tuple ds] = some (.dat (.tuple ds)) := rfl
def pTupD (d : PyData) : Option PyData := (pItD d).map .tuple
theorem x_tupD {d : PyData} : gTuple [d] = (pTupD d).map .dat := by cases d <;> rfl
theorem x_inIV1 {x : Int} {l : List Int} : gIn true (.int x) (.tuple (l.map .int)) = some (.dat (.bool (!decide (x ∈ l)))) := by
  have h : (l.map PyData.int).all flatD = true := by simp [flatD]
  simp only [gIn, flatD, if_true, h, inD_int, Bool.true_xor]
/-! ### lists of things of any make -/
theorem x_catD {xs ys : List PyData} : gAdd (.list xs) (.list ys) = (pCat xs ys).map (fun l => .new (.lst (l.map eD))) := by
  simp only [gAdd, pCat]
  split
  · simp
  · rfl
theorem x_catC {xs ys a b : List PyData} (ha : xs = a) (hb : ys = b) : gAdd (.list xs) (.list ys) = (pCat a b).map (fun l => .new (.lst (l.map eD))) := by
  subst ha hb; exact x_catD
theorem x_ixH {ds : List PyData} {i : Int} {d : PyData} (h : atI ds i = some d) : gIx (.list ds) (.int i) = some (.dat d) := by
  simp only [gIx, h]; rfl
section
variable {α β γ δ ε : Type}
abbrev eH2 (a : α → PyData) (b : β → PyData) : α × β → PyData := fun p => .list [a p.1, b p.2]
abbrev eH3 (a : α → PyData) (b : β → PyData) (c : γ → PyData) : α × β × γ → PyData := fun p => .list [a p.1, b p.2.1, c p.2.2]
abbrev eH4 (a : α → PyData) (b : β → PyData) (c : γ → PyData) (d : δ → PyData) : α × β × γ × δ → PyData := fun p => .list [a p.1, b p.2.1, c p.2.2.1, d p.2.2.2]
abbrev eH5 (a : α → PyData) (b : β → PyData) (c : γ → PyData) (d : δ → PyData) (e : ε → PyData) : α × β × γ × δ × ε → PyData := fun p => .list [a p.1, b p.2.1, c p.2.2.1, d p.2.2.2.1, e p.2.2.2.2]
end
theorem map_eD {l : List PyData} : l.map eD = l := List.map_id' l
def pInTD (neg : Bool) (x : PyData) (ds : List PyData) : Option Bool := pInD neg x ds
theorem x_inDT {neg : Bool} {x : PyData} {ds : List PyData} : gIn neg x (.tuple ds) = (pInD neg x ds).map (fun z => .dat (.bool z)) := by
  unfold gIn pInD
  split
  · dsimp only
    split <;> rfl
  · rfl
/-! ### xs.insert(i, x) -/
def fIns : List PyData → List PyData → Option (List PyData × PyData)
  | ds, [.int i, d] => if ds.length < 100000 ∧ 0 ≤ i ∧ i < 2 ^ 62 then some (ds.take i.toNat ++ [d] ++ ds.drop i.toNat, .none) else none
  | _, _ => none
theorem md_insert {K : PySem.W.Frag} : MutD K (fun x vs H Q => ∃ (l : Addr) (xs : List V) (i : Int) (y : V), x = .ref l ∧ vs = [.int i, y] ∧ H l = some (.lst xs) ∧ xs.length < sizeLine ∧ 0 ≤ i ∧ i < 2 ^ 63 ∧ Q .non (upd H l (.lst (xs.take i.toNat ++ [y] ++ xs.drop i.toNat)))) fIns := by
  intro Hk H l vs ws ds es ds' ret Q e hl hd he h q
  unfold fIns at h
  split at h
  · split at h
    · rename_i hz
      cases h
      cases he with
      | cons h1 h2 =>
        cases h1
        cases h2 with
        | cons h2 h3 =>
          cases h3
          exact ⟨l, vs, _, _, rfl, rfl, hl, by rw [hd.len]; exact Nat.lt_of_lt_of_le hz.1 (by decide), hz.2.1, Int.lt_of_lt_of_le hz.2.2 (by decide), q _ _ (((hd.take _).append (.cons h2 .nil)).append (hd.drop _)) .non⟩
    · cases h
  · cases h
def pIns {α : Type} (l : List α) (i : Int) (x : α) : Option (List α) := if l.length < 100000 ∧ 0 ≤ i ∧ i < 2 ^ 62 then some (l.take i.toNat ++ [x] ++ l.drop i.toNat) else none
theorem x_ins {α : Type} {e : α → PyData} {l : List α} {i : Int} {x : α} : fIns (l.map e) [.int i, e x] = (pIns l i x).map (fun l => (l.map e, .none)) := by
  simp only [fIns, pIns, List.length_map]
  split
  · simp
  · rfl
abbrev eT0 : Unit → PyData := fun _ => .tuple []
/-- a whole number among things of any make -/
def asI : PyData → Option Int
  | .int i => some i
  | _ => none
theorem x_addDI {d : PyData} {j : Int} : gAdd d (.int j) = ((asI d).map (· + j)).map (fun z => .dat (.int z)) := by cases d <;> rfl
theorem x_addID {d : PyData} {j : Int} : gAdd (.int j) d = ((asI d).map (j + ·)).map (fun z => .dat (.int z)) := by cases d <;> rfl
theorem x_negD {d : PyData} : gNeg d = ((asI d).map fun i => -i).map (fun z => .dat (.int z)) := by cases d <;> rfl
/-! ### values put otherwise -/
section
variable {β γ τ : Type} {e e2 : Sl} {i : Nat} {K : Fl → Sl → Option β} {k : τ → Option γ} {h : γ → Option β} {R : Option β}
theorem c_setDC {d d' : PyData} (hd : d = d') (p : setK i (.dat d') e K = R) : setK i (.dat d) e K = R := by subst hd; exact p
theorem c_setNC {d d' : List PyData} (hd : d = d') (p : setK i (.new (.lst d')) e K = R) : setK i (.new (.lst d)) e K = R := by subst hd; exact p
theorem c_retC {ws : List Nat} {r r' : Res} {K : Fl → Sl → Option β} (hd : r = r') (p : retK ws r' e K = R) : retK ws r e K = R := by subst hd; exact p
end
end Cm
namespace Cm
open PySem L2
/-! ### dicts as lists of pairs of data -/
def keyOf : PyData → Option Key
  | .int i => some (.inl i)
  | .str x => some (.inr x)
  | _ => none
theorem keyOf_keyD (k : Key) : keyOf (keyD k) = some k := by cases k <;> rfl
def dGet (es : List (PyData × PyData)) (k : Key) : Option PyData := (es.find? fun p => decide (keyOf p.1 = some k)).map (·.2)
def dPut (es : List (PyData × PyData)) (k : Key) (d : PyData) : List (PyData × PyData) :=
  if (es.any fun p => decide (keyOf p.1 = some k)) = true then es.map (fun p => if keyOf p.1 = some k then (p.1, d) else p) else es ++ [(keyD k, d)]
def dDrop (es : List (PyData × PyData)) (k : Key) : List (PyData × PyData) := es.filter fun p => decide (keyOf p.1 ≠ some k)
def dMerge (es more : List (PyData × PyData)) : Option (List (PyData × PyData)) := match more with
  | [] => some es
  | p :: r => (keyOf p.1).bind fun k => dMerge (dPut es k p.2) r
section
variable {K : PySem.W.Frag} {Hk H : Hp}
theorem dvKv_len : ∀ {kvs : List (Key × V)} {es : List (PyData × PyData)}, DvKv K H kvs es → kvs.length = es.length
  | _, _, .nil => rfl
  | _, _, .cons _ h => by
    have := dvKv_len h
    simp [this]
theorem dvKv_get (k : Key) : ∀ {kvs : List (Key × V)} {es : List (PyData × PyData)}, DvKv K H kvs es → (valV kvs k = none ∧ dGet es k = none) ∨ ∃ v d, valV kvs k = some v ∧ dGet es k = some d ∧ Dv K H v d
  | _, _, .nil => .inl ⟨rfl, rfl⟩
  | _, _, .cons (k := j) (v := v) (d := d) h1 h2 => by
    by_cases e : j = k
    · subst e
      exact .inr ⟨v, d, valV_pos rfl, by simp [dGet, keyOf_keyD], h1⟩
    · have e2 : ¬ keyOf (keyD j) = some k := by
        rw [keyOf_keyD]
        exact fun z => e (Option.some.inj z)
      rw [valV_neg (p := (j, v)) e]
      have : ∀ r, dGet ((keyD j, d) :: r) k = dGet r k := fun r => by simp [dGet, e2]
      rw [this]
      exact dvKv_get k h2
theorem dvKv_any (k : Key) : ∀ {kvs : List (Key × V)} {es : List (PyData × PyData)}, DvKv K H kvs es → (kvs.any fun kv => decide (kv.1 = k)) = (es.any fun p => decide (keyOf p.1 = some k))
  | _, _, .nil => rfl
  | _, _, .cons h1 h2 => by
    rw [List.any_cons, List.any_cons, dvKv_any k h2]
    simp [keyOf_keyD]
theorem dvKv_repl (k : Key) {v : V} {d : PyData} (q : Dv K H v d) : ∀ {kvs : List (Key × V)} {es : List (PyData × PyData)}, DvKv K H kvs es → DvKv K H (kvs.map fun kv => if kv.1 = k then (kv.1, v) else kv) (es.map fun p => if keyOf p.1 = some k then (p.1, d) else p)
  | _, _, .nil => .nil
  | _, _, .cons (k := j) h1 h2 => by
    rw [List.map_cons, List.map_cons]
    by_cases e : j = k
    · rw [if_pos e, if_pos (by rw [keyOf_keyD, e])]
      exact .cons q (dvKv_repl k q h2)
    · rw [if_neg e, if_neg (by rw [keyOf_keyD]; exact fun z => e (Option.some.inj z))]
      exact .cons h1 (dvKv_repl k q h2)
theorem dvKv_app : ∀ {kvs kvs' : List (Key × V)} {es es' : List (PyData × PyData)}, DvKv K H kvs es → DvKv K H kvs' es' → DvKv K H (kvs ++ kvs') (es ++ es')
  | _, _, _, _, .nil, h => h
  | _, _, _, _, .cons h1 h2, h => .cons h1 (dvKv_app h2 h)
theorem dvKv_put (k : Key) {v : V} {d : PyData} (q : Dv K H v d) {kvs : List (Key × V)} {es : List (PyData × PyData)} (h : DvKv K H kvs es) : DvKv K H (putK kvs k v) (dPut es k d) := by
  unfold putK dPut
  rw [dvKv_any k h]
  split
  · exact dvKv_repl k q h
  · exact dvKv_app h (.cons q .nil)
theorem dvKv_drop (k : Key) : ∀ {kvs : List (Key × V)} {es : List (PyData × PyData)}, DvKv K H kvs es → DvKv K H (dropK kvs k) (dDrop es k)
  | _, _, .nil => .nil
  | _, _, .cons (k := j) h1 h2 => by
    unfold dropK dDrop
    rw [List.filter_cons, List.filter_cons]
    by_cases e : j = k
    · subst e
      simp only [ne_eq, not_true_eq_false, decide_false, Bool.false_eq_true, if_false, keyOf_keyD]
      exact dvKv_drop j h2
    · have e2 : ¬ keyOf (keyD j) = some k := by
        rw [keyOf_keyD]
        exact fun z => e (Option.some.inj z)
      simp only [ne_eq, e, not_false_eq_true, decide_true, if_true, e2]
      exact .cons h1 (dvKv_drop k h2)
theorem dvKv_merge : ∀ {more : List (Key × V)} {ms : List (PyData × PyData)}, DvKv K H more ms → ∀ {kvs : List (Key × V)} {es es' : List (PyData × PyData)}, DvKv K H kvs es → dMerge es ms = some es' → DvKv K H (mergeK kvs more) es'
  | _, _, .nil, _, _, _, h, e => by
    cases e
    exact h
  | _, _, .cons (k := j) h1 h2, _, _, _, h, e => by
    simp only [dMerge, keyOf_keyD, Option.bind_some] at e
    exact dvKv_merge h2 (dvKv_put j h1 h) e
theorem dvKv_at : ∀ {kvs : List (Key × V)} {es : List (PyData × PyData)}, DvKv K H kvs es → ∀ (i : Nat) (p : PyData × PyData), es[i]? = some p → ∃ k v, kvs[i]? = some (k, v) ∧ p.1 = keyD k ∧ Dv K H v p.2
  | _, _, .nil, i, p, h => by simp at h
  | _, _, .cons (k := j) (v := v) h1 h2, 0, p, h => by
    simp at h
    subst h
    exact ⟨j, v, rfl, rfl, h1⟩
  | _, _, .cons h1 h2, i + 1, p, h => by
    obtain ⟨k, v, e, q⟩ := dvKv_at h2 i p (by simpa using h)
    exact ⟨k, v, by simpa using e, q⟩
theorem key_dv (k : Key) : Dv K H (kV k) (keyD k) := by
  cases k with
  | inl i => exact .int i
  | inr x => exact .str x
theorem View.key {v : V} {d : PyData} {k : Key} (h : View K Hk H v d) (e : keyOf d = some k) : v = kV k := by
  cases d with
  | int i => cases e; exact h.int
  | str x => cases e; exact h.str
  | _ => cases e
end
/-! ### d[k], k in d -/
section
variable {X : Cx} {K : PySem.W.Frag}
def rDGet : R2 := fun x y H Q => ∃ a v, x = .ref a ∧ DGet H a y (some v) ∧ Q v H
def rDIn (neg : Bool) : R2 := fun y x H Q => ∃ a o, x = .ref a ∧ DGet H a y o ∧ Q (.bl (neg ^^ o.isSome)) H
def gDGet : PyData → PyData → Option Res
  | .dict es, d => (keyOf d).bind fun k => (dGet es k).map .dat
  | _, _ => none
def gDIn (neg : Bool) : PyData → PyData → Option Res
  | d, .dict es => (keyOf d).map fun k => .dat (.bool (neg ^^ (dGet es k).isSome))
  | _, _ => none
theorem od_dget : OpD K rDGet gDGet := by
  intro Hk H x y dx dy res Q e vx vy h q
  unfold gDGet at h
  split at h
  · obtain ⟨k, h1, h⟩ := Option.bind_eq_some_iff.mp h
    obtain ⟨d, h2, rfl⟩ := Option.map_eq_some_iff.mp h
    obtain ⟨a, kvs, rfl, g1, g2⟩ := vx.dict e
    rcases dvKv_get k g2 with ⟨z1, z2⟩ | ⟨v, d', z1, z2, z3⟩
    · rw [h2] at z2
      cases z2
    · rw [h2] at z2
      cases z2
      refine ⟨a, v, rfl, .inl ⟨kvs, k, g1, vy.key h1, z1.symm⟩, q _ _ (.inl ⟨rfl, z3⟩)⟩
  · cases h
theorem od_din {neg : Bool} : OpD K (rDIn neg) (gDIn neg) := by
  intro Hk H y x dy dx res Q e vy vx h q
  unfold gDIn at h
  split at h
  · rename_i d es
    obtain ⟨k, h1, rfl⟩ := Option.map_eq_some_iff.mp h
    obtain ⟨a, kvs, rfl, g1, g2⟩ := vx.dict e
    refine ⟨a, valV kvs k, rfl, .inl ⟨kvs, k, g1, vy.key h1, rfl⟩, ?_⟩
    have : (valV kvs k).isSome = (dGet es k).isSome := by
      rcases dvKv_get k g2 with ⟨z1, z2⟩ | ⟨v, d', z1, z2, z3⟩
      · rw [z1, z2]
        rfl
      · rw [z1, z2]
        rfl
    rw [this]
    exact q _ _ (.inl ⟨rfl, .bl _⟩)
  · cases h
theorem op_din (hu : X.A.units + 64 < cLine) : OpR X (compareOp .In) (rDIn false) := by
  intro pins s σ H y x u v Q I ry rx h
  obtain ⟨a, o, ex, g, q⟩ := h
  subst ex
  obtain rfl : v = Value.ref a := rx
  exact d_in (by omega) I g ry fun s' I' => ⟨.bl o.isSome, H, I', rfl, by simpa using q⟩
theorem op_dnin (hu : X.A.units + 64 < cLine) : OpR X (compareOp .NotIn) (rDIn true) := by
  intro pins s σ H y x u v Q I ry rx h
  obtain ⟨a, o, ex, g, q⟩ := h
  subst ex
  obtain rfl : v = Value.ref a := rx
  exact d_notIn (by omega) I g ry fun s' I' => ⟨.bl (!o.isSome), H, I', rfl, by simpa using q⟩
theorem ve_dget {a b : Expr} {ma mb : ME} {pos : Pos} (hu : X.A.units + 64 < cLine) (ha : VE X a ma) (hb : VE X b mb) (hs : NoSl b) : VE X (.Subscript a b pos) (mOp gDGet ma mb) := (pe_dget (by omega) ha hb hs).imp fun _ _ _ => op_run od_dget
/-! ### d.get(k), d.get(k, x) -/
def mDGet1 (mo mk : ME) : ME := fun env => (mo env).bind fun o => (rdv o.2 (stab o.1)).bind fun d0 => match d0 with
  | .dict _ => (mk o.2).bind fun p => (rdv p.2 (stab o.1)).bind fun d => (rdv p.2 (stab p.1)).bind fun k => match d with
    | .dict es => (keyOf k).map fun k => (.dat ((dGet es k).getD .none), p.2)
    | _ => none
  | _ => none
theorem dget1_run {mo mk : ME} {σ : St} {H : Hp} {Q : VK} (h : tE K (mDGet1 mo mk) σ H Q) : tDGet1 (tE K mo) (tE K mk) σ H Q := by
  obtain ⟨B, env, Hk, res, env', R, hm, k⟩ := h
  obtain ⟨⟨x, e0⟩, h0, hm⟩ := Option.bind_eq_some_iff.mp hm
  obtain ⟨d0, g0, hm⟩ := Option.bind_eq_some_iff.mp hm
  split at hm
  · obtain ⟨⟨y, e1⟩, h1, hm⟩ := Option.bind_eq_some_iff.mp hm
    obtain ⟨d, g1, hm⟩ := Option.bind_eq_some_iff.mp hm
    obtain ⟨dk, g2, hm⟩ := Option.bind_eq_some_iff.mp hm
    split at hm
    · obtain ⟨kk, g3, hm⟩ := Option.map_eq_some_iff.mp hm
      cases hm
      refine ⟨B, env, Hk, x, e0, R, h0, fun v Hk1 H1 R1 s1 o1 => ?_⟩
      obtain ⟨Hk1', R1', s1', o1'⟩ := R1.stab o1
      obtain ⟨a, kvs0, rfl, z1, _⟩ := (R1'.view o1' g0).dict R1'.ex
      refine ⟨a, rfl, .inl ⟨_, z1⟩, ?_⟩
      refine ⟨B, e0, Hk1', y, e1, R1', h1, fun w Hk2 H2 R2 s2 o2 => ?_⟩
      obtain ⟨Hk2', R2', s2', o2'⟩ := R2.stab o2
      obtain ⟨a', kvs, ea, z2, z3⟩ := (R2'.view ((o1'.mono s2).mono s2') g1).dict R2'.ex
      cases ea
      refine ⟨valV kvs kk, .inl ⟨kvs, kk, z2, (R2'.view o2' g2).key g3, rfl⟩, ?_⟩
      refine k _ Hk2' H2 R2' (((s1.trans s1').trans s2).trans s2') ?_
      rcases dvKv_get kk z3 with ⟨w1, w2⟩ | ⟨v, d', w1, w2, w3⟩
      · rw [w1, w2]
        exact .non
      · rw [w1, w2]
        exact w3
    · cases hm
  · cases hm
theorem ve_dget1 {o e : Expr} {mo mk : ME} {apos cpos : Pos} (hu : X.A.units + 64 < cLine) (ho : VE X o mo) (he : VE X e mk) (hb : attributeBase o "get" X.env (eval o X.env) = eval o X.env := by rfl)
    (hf : ((backTo cpos (starEach [e] X.env)).all (fun x => !x.1) && (backToKw cpos (keywordEach [] X.env)).all (fun x => x.1.isSome) && decide (([e] : List Expr).length + ([] : List Keyword).length + (if ([] : List Keyword).isEmpty then 0 else 1) < 30)) = true := by rfl)
    (hl : (apos.endLine == cpos.line) = true := by rfl) (ht : backTo cpos (starEach [e] X.env) = [(false, eval e X.env)] := by rfl) : VE X (.Call (.Attribute o "get" apos) [e] [] cpos) (mDGet1 mo mk) :=
  (pe_dget1 (by omega) ho he ⟨hb, hf, hl, ht⟩).imp fun _ _ _ => dget1_run
def mDGet2 (mo mk mx : ME) : ME := fun env => (mo env).bind fun o => (rdv o.2 (stab o.1)).bind fun d0 => match d0 with
  | .dict _ => (mk o.2).bind fun p => (mFrz mx p.2).bind fun q => match q.1 with
    | .dat dx => (rdv q.2 (stab o.1)).bind fun d => (rdv q.2 (stab p.1)).bind fun k => match d with
      | .dict es => (keyOf k).map fun k => (.dat ((dGet es k).getD dx), q.2)
      | _ => none
    | _ => none
  | _ => none
theorem dget2_run {mo mk mx : ME} {σ : St} {H : Hp} {Q : VK} (h : tE K (mDGet2 mo mk mx) σ H Q) : tDGet2 (tE K mo) (tE K mk) (tE K (mFrz mx)) σ H Q := by
  obtain ⟨B, env, Hk, res, env', R, hm, k⟩ := h
  obtain ⟨⟨x, e0⟩, h0, hm⟩ := Option.bind_eq_some_iff.mp hm
  obtain ⟨d0, g0, hm⟩ := Option.bind_eq_some_iff.mp hm
  split at hm
  · obtain ⟨⟨y, e1⟩, h1, hm⟩ := Option.bind_eq_some_iff.mp hm
    obtain ⟨⟨z, e2⟩, h2, hm⟩ := Option.bind_eq_some_iff.mp hm
    cases z with
    | new c => cases hm
    | slt i => cases hm
    | pv p => cases hm
    | dat dx =>
      obtain ⟨d, g1, hm⟩ := Option.bind_eq_some_iff.mp hm
      obtain ⟨dk, g2, hm⟩ := Option.bind_eq_some_iff.mp hm
      split at hm
      · obtain ⟨kk, g3, hm⟩ := Option.map_eq_some_iff.mp hm
        cases hm
        refine ⟨B, env, Hk, x, e0, R, h0, fun v Hk1 H1 R1 s1 o1 => ?_⟩
        obtain ⟨Hk1', R1', s1', o1'⟩ := R1.stab o1
        obtain ⟨a, kvs0, rfl, z1, _⟩ := (R1'.view o1' g0).dict R1'.ex
        refine ⟨a, rfl, .inl ⟨_, z1⟩, ?_⟩
        refine ⟨B, e0, Hk1', y, e1, R1', h1, fun w Hk2 H2 R2 s2 o2 => ?_⟩
        obtain ⟨Hk2', R2', s2', o2'⟩ := R2.stab o2
        refine ⟨B, e1, Hk2', .dat dx, e2, R2', h2, fun u Hk3 H3 R3 s3 o3 => ?_⟩
        obtain ⟨a', kvs, ea, z2, z3⟩ := (R3.view (((o1'.mono s2).mono s2').mono s3) g1).dict R3.ex
        cases ea
        refine ⟨valV kvs kk, .inl ⟨kvs, kk, z2, (R3.view (o2'.mono s3) g2).key g3, rfl⟩, ?_⟩
        refine k _ Hk3 H3 R3 ((((s1.trans s1').trans s2).trans s2').trans s3) ?_
        rcases dvKv_get kk z3 with ⟨w1, w2⟩ | ⟨v, d', w1, w2, w3⟩
        · rw [w1, w2]
          exact o3
        · rw [w1, w2]
          exact w3
      · cases hm
  · cases hm
theorem ve_dget2 {o e f : Expr} {mo mk mx : ME} {apos cpos : Pos} (hu : X.A.units + 64 < cLine) (ho : VE X o mo) (he : VE X e mk) (hx : VE X f mx) (hb : attributeBase o "get" X.env (eval o X.env) = eval o X.env := by rfl)
    (hf : ((backTo cpos (starEach [e, f] X.env)).all (fun x => !x.1) && (backToKw cpos (keywordEach [] X.env)).all (fun x => x.1.isSome) && decide (([e, f] : List Expr).length + ([] : List Keyword).length + (if ([] : List Keyword).isEmpty then 0 else 1) < 30)) = true := by rfl)
    (hl : (apos.endLine == cpos.line) = true := by rfl) (ht : backTo cpos (starEach [e, f] X.env) = [(false, eval e X.env), (false, eval f X.env)] := by rfl) : VE X (.Call (.Attribute o "get" apos) [e, f] [] cpos) (mDGet2 mo mk mx) :=
  (pe_dget2 (by omega) ho he (ve_frz hx) ⟨hb, hf, hl, ht⟩).imp fun _ _ _ => dget2_run
end
/-! ### d[k] = v -/
def dctAt (env : Sl) (i : Nat) : Option (Slot × List (PyData × PyData)) := match env[i]? with
  | some (.own (.dct es)) => some (.own (.dct es), es)
  | some (.io k (.dct es)) => some (.io k (.dct es), es)
  | _ => none
section
variable {X : Cx} {K : PySem.W.Frag} {B : Fb} {env : Sl} {σ : St} {Hk : Kn} {H : Hp}
theorem Rel.dctAt (R : Rel K B env σ Hk H) {i : Nat} {s : Slot} {es : List (PyData × PyData)} (h : Cm.dctAt env i = some (s, es)) : ∃ a kvs, env[i]? = some s ∧ s.mut ∧ σ[i]? = some (some (V.ref a)) ∧ H a = some (.dK kvs) ∧ DvKv K Hk kvs es := by
  unfold Cm.dctAt at h
  split at h
  · rename_i ds' e
    cases h
    obtain ⟨o, g1, a, rfl, q1, q2, vs, q3, q4⟩ := R.slot i _ e
    exact ⟨a, vs, e, trivial, g1, q3, q4⟩
  · rename_i k ds' e
    cases h
    obtain ⟨o, g1, a, rfl, q1, q2, vs, q3, q4⟩ := R.slot i _ e
    exact ⟨a, vs, e, trivial, g1, q3, q4⟩
  · cases h
def rSetD : V → V → V → Hp → (Hp → Prop) → Prop := fun o i v H Q => ∃ a H', o = .ref a ∧ DPut H a i v H' ∧ Q H'
theorem set_dict (hu : X.A.units + 64 < cLine) : PSet X rSetD := by
  intro pins s σ H o i v ov iv u Q I ro ri rv h
  obtain ⟨a, H', eo, g, q⟩ := h
  subst eo
  obtain rfl : ov = Value.ref a := ro
  exact d_setItem (by omega) I g ri rv fun s' I' => ⟨H', I', q⟩
def mgPut (i : Nat) (mi : ME) : MG := fun d env => (dctAt env i).bind fun _ => (mi env).bind fun p => match p.1 with
  | .dat dk => (keyOf dk).bind fun k => (dctAt p.2 i).bind fun q => if q.2.length < 100000 then some (p.2.set i (q.1.put (.dct (dPut q.2 k d)))) else none
  | _ => none
theorem gput_run {i : Nat} {mi : ME} {v : V} {Q : St → Hp → Prop} (h : tG K [] (mgPut i mi) v σ H Q) : gSub (tVar i) (tE K mi) rSetD v σ H Q := by
  obtain ⟨B, env, Hk, d, env', R, hd, hm, k⟩ := h
  obtain ⟨⟨s0, ds0⟩, h0, hm⟩ := Option.bind_eq_some_iff.mp hm
  obtain ⟨⟨r, e1⟩, h1, hm⟩ := Option.bind_eq_some_iff.mp hm
  obtain ⟨a, vs0, g1, g2, g3, g4, g5⟩ := R.dctAt h0
  refine ⟨_, g3, B, env, Hk, r, e1, R, h1, fun w Hk1 H1 R1 s1 o1 => ?_⟩
  cases r with
  | new c => cases hm
  | slt i => cases hm
  | pv p => cases hm
  | dat dd =>
    obtain ⟨kk, h2, hm⟩ := Option.bind_eq_some_iff.mp hm
    obtain ⟨⟨s, es⟩, h3, hm⟩ := Option.bind_eq_some_iff.mp hm
    split at hm
    · rename_i hz
      cases hm
      obtain ⟨a', kvs, q1, q2, q3, q4, q5⟩ := R1.dctAt h3
      rw [g3] at q3
      cases q3
      have hw : w = kV kk := View.key (K := K) (Hk := Hk1) (H := H1) (.inl o1) h2
      subst hw
      refine ⟨a, _, rfl, DPut.k q4 (by rw [dvKv_len q5]; exact Nat.lt_of_lt_of_le hz (by decide)), ?_⟩
      exact k σ Hk1 _ (R1.change q1 q2 g3 ⟨_, upd_same, dvKv_put kk (dv_mono s1 _ _ hd) q5⟩) s1 (fun _ _ => rfl) rfl
    · cases hm
theorem vg_put {i : Nat} {x : Str} {mi : ME} {ix : Expr} {p pos : Pos} (hu : X.A.units + 64 < cLine) (hi : VE X ix mi) (hN : X.N[i]? = some x := by rfl) (hv : Vis X.env.scope x := by first | exact Or.inl rfl | exact Or.inr (Or.inl rfl) | exact Or.inr (Or.inr rfl)) (hd : (x == ("__debug__" : Str)) = false := by decide) (hcd : (x == ("__classdict__" : Str)) = false := by decide)
    (ha : ∀ v, assign (.Subscript (.Name x p) ix pos) X.env v = (do
      let ov ← holding [v] (eval (.Name x p) X.env)
      let iv ← holding [v, ov] (eval ix X.env)
      standAt pos
      holding [v, ov, iv] (setItem ov iv v)
      release [v, ov, iv] []) := by intro _; rfl) : VG X (.Subscript (.Name x p) ix pos) [] (mgPut i mi) := (pg_sub (pe_var hN hv hd hcd) hi (set_dict hu) ha).imp fun _ _ _ _ => gput_run
/-! ### d.pop(k), d.pop(k, x) -/
def mDPop1 (i : Nat) (mk : ME) : ME := fun env => (dctAt env i).bind fun _ => (mk env).bind fun p => (dctAt p.2 i).bind fun q => match p.1 with
  | .dat dk => (keyOf dk).bind fun k => (dGet q.2 k).map fun d => (.dat d, p.2.set i (q.1.put (.dct (dDrop q.2 k))))
  | _ => none
theorem dpop1_run {i : Nat} {mk : ME} {Q : VK} (h : tE K (mDPop1 i mk) σ H Q) : tDPop1 (tVar i) (tE K mk) σ H Q := by
  obtain ⟨B, env, Hk, res, env', R, hm, k⟩ := h
  obtain ⟨⟨s0, ds0⟩, h0, hm⟩ := Option.bind_eq_some_iff.mp hm
  obtain ⟨⟨r, e1⟩, h1, hm⟩ := Option.bind_eq_some_iff.mp hm
  obtain ⟨⟨s, es⟩, h2, hm⟩ := Option.bind_eq_some_iff.mp hm
  obtain ⟨a, vs0, g1, g2, g3, g4, g5⟩ := R.dctAt h0
  refine ⟨_, g3, a, rfl, .inl ⟨_, .inl g4⟩, B, env, Hk, r, e1, R, h1, fun w Hk1 H1 R1 s1 o1 => ?_⟩
  cases r with
  | new c => cases hm
  | slt i => cases hm
  | pv p => cases hm
  | dat dd =>
    obtain ⟨kk, h3, hm⟩ := Option.bind_eq_some_iff.mp hm
    obtain ⟨d, h4, hm⟩ := Option.map_eq_some_iff.mp hm
    cases hm
    obtain ⟨a', kvs, q1, q2, q3, q4, q5⟩ := R1.dctAt h2
    rw [g3] at q3
    cases q3
    have hw : w = kV kk := View.key (K := K) (Hk := Hk1) (H := H1) (.inl o1) h3
    rcases dvKv_get kk q5 with ⟨w1, w2⟩ | ⟨v, d', w1, w2, w3⟩
    · rw [h4] at w2
      cases w2
    · rw [h4] at w2
      cases w2
      exact ⟨kvs, kk, v, q4, hw, w1, k v Hk1 _ (R1.change q1 q2 g3 ⟨_, upd_same, dvKv_drop kk q5⟩) s1 w3⟩
def mDPop2 (i : Nat) (mk mx : ME) : ME := fun env => (dctAt env i).bind fun _ => (mk env).bind fun p => (mFrz mx p.2).bind fun y => (dctAt y.2 i).bind fun q => match p.1, y.1 with
  | .dat dk, .dat dx => (keyOf dk).map fun k => (.dat ((dGet q.2 k).getD dx), y.2.set i (q.1.put (.dct (dDrop q.2 k))))
  | _, _ => none
theorem dDrop_no {k : Key} : ∀ {kvs : List (Key × V)} {es : List (PyData × PyData)}, DvKv K H kvs es → valV kvs k = none → dropK kvs k = kvs
  | _, _, .nil, _ => rfl
  | _, _, .cons (k := j) (v := v) h1 h2, h => by
    by_cases e : j = k
    · rw [valV_pos (p := (j, v)) e] at h
      cases h
    · rw [valV_neg (p := (j, v)) e] at h
      unfold dropK
      rw [List.filter_cons]
      simp only [ne_eq, e, not_false_eq_true, decide_true, if_true]
      have := dDrop_no h2 h
      unfold dropK at this
      rw [this]
theorem dpop2_run {i : Nat} {mk mx : ME} {Q : VK} (h : tE K (mDPop2 i mk mx) σ H Q) : tDPop2 (tVar i) (tE K mk) (tE K (mFrz mx)) σ H Q := by
  obtain ⟨B, env, Hk, res, env', R, hm, k⟩ := h
  obtain ⟨⟨s0, ds0⟩, h0, hm⟩ := Option.bind_eq_some_iff.mp hm
  obtain ⟨⟨r, e1⟩, h1, hm⟩ := Option.bind_eq_some_iff.mp hm
  obtain ⟨⟨y, e2⟩, h2, hm⟩ := Option.bind_eq_some_iff.mp hm
  obtain ⟨⟨s, es⟩, h3, hm⟩ := Option.bind_eq_some_iff.mp hm
  obtain ⟨a, vs0, g1, g2, g3, g4, g5⟩ := R.dctAt h0
  refine ⟨_, g3, a, rfl, .inl ⟨_, .inl g4⟩, B, env, Hk, r, e1, R, h1, fun w Hk1 H1 R1 s1 o1 => ?_⟩
  cases r with
  | new c => cases hm
  | slt i => cases hm
  | pv p => cases hm
  | dat dd =>
    cases y with
    | new c => cases hm
    | slt i => cases hm
    | pv p => cases hm
    | dat dx =>
      obtain ⟨kk, h4, hm⟩ := Option.map_eq_some_iff.mp hm
      cases hm
      refine ⟨B, e1, Hk1, .dat dx, e2, R1, h2, fun u Hk2 H2 R2 s2 o2 => ?_⟩
      obtain ⟨a', kvs, q1, q2, q3, q4, q5⟩ := R2.dctAt h3
      rw [g3] at q3
      cases q3
      have hw : w = kV kk := View.key (K := K) (Hk := Hk1) (H := H1) (.inl o1) h4
      refine ⟨kvs, kk, q4, hw, fun v hv => ?_, fun hn => ?_⟩
      · refine k v Hk2 _ (R2.change q1 q2 g3 ⟨_, upd_same, dvKv_drop kk q5⟩) (s1.trans s2) ?_
        rcases dvKv_get kk q5 with ⟨w1, w2⟩ | ⟨v', d', w1, w2, w3⟩
        · rw [hv] at w1
          cases w1
        · rw [hv] at w1
          cases w1
          rw [w2]
          exact w3
      · have e5 : H2 = upd H2 a (.dK (dropK kvs kk)) := by
          rw [dDrop_no q5 hn]
          funext b
          by_cases e : b = a
          · rw [e, upd_same, q4]
          · rw [upd_ne e]
        rw [e5]
        refine k u Hk2 _ (R2.change q1 q2 g3 ⟨_, upd_same, dvKv_drop kk q5⟩) (s1.trans s2) ?_
        rcases dvKv_get kk q5 with ⟨w1, w2⟩ | ⟨v', d', w1, w2, w3⟩
        · rw [w2]
          exact o2
        · rw [hn] at w1
          cases w1
theorem ve_dpop1 {i : Nat} {x : Str} {e : Expr} {mk : ME} {p apos cpos : Pos} (he : VE X e mk) (hN : X.N[i]? = some x := by rfl) (hv : Vis X.env.scope x := by first | exact Or.inl rfl | exact Or.inr (Or.inl rfl) | exact Or.inr (Or.inr rfl)) (hd : (x == ("__debug__" : Str)) = false := by decide) (hcd : (x == ("__classdict__" : Str)) = false := by decide)
    (hb : attributeBase (.Name x p) "pop" X.env (eval (.Name x p) X.env) = eval (.Name x p) X.env := by rfl)
    (hf : ((backTo cpos (starEach [e] X.env)).all (fun x => !x.1) && (backToKw cpos (keywordEach [] X.env)).all (fun x => x.1.isSome) && decide (([e] : List Expr).length + ([] : List Keyword).length + (if ([] : List Keyword).isEmpty then 0 else 1) < 30)) = true := by rfl)
    (hl : (apos.endLine == cpos.line) = true := by rfl) (ht : backTo cpos (starEach [e] X.env) = [(false, eval e X.env)] := by rfl) : VE X (.Call (.Attribute (.Name x p) "pop" apos) [e] [] cpos) (mDPop1 i mk) :=
  (pe_dpop1 (pe_var hN hv hd hcd) he ⟨hb, hf, hl, ht⟩).imp fun _ _ _ => dpop1_run
theorem ve_dpop2 {i : Nat} {x : Str} {e f : Expr} {mk mx : ME} {p apos cpos : Pos} (he : VE X e mk) (hx : VE X f mx) (hN : X.N[i]? = some x := by rfl) (hv : Vis X.env.scope x := by first | exact Or.inl rfl | exact Or.inr (Or.inl rfl) | exact Or.inr (Or.inr rfl)) (hd : (x == ("__debug__" : Str)) = false := by decide) (hcd : (x == ("__classdict__" : Str)) = false := by decide)
    (hb : attributeBase (.Name x p) "pop" X.env (eval (.Name x p) X.env) = eval (.Name x p) X.env := by rfl)
    (hf : ((backTo cpos (starEach [e, f] X.env)).all (fun x => !x.1) && (backToKw cpos (keywordEach [] X.env)).all (fun x => x.1.isSome) && decide (([e, f] : List Expr).length + ([] : List Keyword).length + (if ([] : List Keyword).isEmpty then 0 else 1) < 30)) = true := by rfl)
    (hl : (apos.endLine == cpos.line) = true := by rfl) (ht : backTo cpos (starEach [e, f] X.env) = [(false, eval e X.env), (false, eval f X.env)] := by rfl) : VE X (.Call (.Attribute (.Name x p) "pop" apos) [e, f] [] cpos) (mDPop2 i mk mx) :=
  (pe_dpop2 (pe_var hN hv hd hcd) he (ve_frz hx) ⟨hb, hf, hl, ht⟩).imp fun _ _ _ => dpop2_run
/-! ### a cell that no name has -/
/-- an object held back: it counts as there from the beginning -/
def Fb.hold (B : Fb) (p : Addr) (o : HO) : Fb := B.guard p o
theorem Rel.hold (R : Rel K B env σ Hk H) {p : Addr} {o : HO} (h : H p = none) : Rel K (B.hold p o) env σ Hk (upd H p o) :=
  (R.laid h).guard upd_same (R.kfree h) (R.fresh0 h) (R.pfree h) fun j s hj hm => R.mutNe h hj hm
theorem Rel.held {env' : Sl} {Hk' : Kn} {H' : Hp} (R : Rel K B env σ Hk H) {p : Addr} {o : HO} (h : H p = none) (R' : Rel K (B.hold p o) env' σ Hk' H') :
    Rel K B env' σ Hk' H' ∧ H' p = some o ∧ Hk' p = none ∧ (∀ (n : Nat), Hk'.P n ≠ some p) ∧ ∀ (j : Nat) s, env'[j]? = some s → s.mut → σ[j]? ≠ some (some (V.ref p)) :=
  R'.unguard (R.fresh0 h) (R.free0 (R.kfree h)) fun z => (R.oin p z).1 h
/-! ### {k: v, ..}, {} -/
def mPairs : List (ME × ME) → Sl → Option (List (PyData × PyData) × Sl)
  | [], env => some ([], env)
  | (mk, mv) :: r, env => (mFrz mk env).bind fun p => (mFrz mv p.2).bind fun q => match p.1, q.1 with
    | .dat k, .dat d => (mPairs r q.2).map fun z => ((k, d) :: z.1, z.2)
    | _, _ => none
inductive PrsAll (K : PySem.W.Frag) (Hk : Hp) : List (V × V) → List (PyData × PyData) → Prop
  | nil : PrsAll K Hk [] []
  | cons {v w : V} {k d : PyData} {ps : List (V × V)} {es : List (PyData × PyData)} : Dv K Hk v k → Dv K Hk w d → PrsAll K Hk ps es → PrsAll K Hk ((v, w) :: ps) ((k, d) :: es)
def tPs (K : PySem.W.Frag) (l : List (ME × ME)) (σ : St) (H : Hp) (Q : List (V × V) → Hp → Prop) : Prop := ∃ B env Hk es env', Rel K B env σ Hk H ∧ mPairs l env = some (es, env') ∧
  ∀ ps Hk' H', Rel K B env' σ Hk' H' → KSame Hk Hk' → PrsAll K Hk' ps es → Q ps H'
theorem pairs_run : ∀ {l : List (ME × ME)} {σ : St} {H : Hp} {Q : List (V × V) → Hp → Prop}, tPs K l σ H Q → tPairs (l.map fun p => (tE K (mFrz p.1), tE K (mFrz p.2))) σ H Q
  | [], σ, H, Q, h => by
    obtain ⟨B, env, Hk, es, env', R, hm, k⟩ := h
    cases hm
    exact k [] Hk H R (.refl _) .nil
  | (mk, mv) :: r, σ, H, Q, h => by
    obtain ⟨B, env, Hk, es, env', R, hm, k⟩ := h
    obtain ⟨⟨x, e1⟩, h1, hm⟩ := Option.bind_eq_some_iff.mp hm
    obtain ⟨⟨y, e2⟩, h2, hm⟩ := Option.bind_eq_some_iff.mp hm
    cases x with
    | new c => cases hm
    | slt i => cases hm
    | pv p => cases hm
    | dat dk =>
      cases y with
      | new c => cases hm
      | slt i => cases hm
      | pv p => cases hm
      | dat d =>
        obtain ⟨⟨es', e3⟩, h3, hm⟩ := Option.map_eq_some_iff.mp hm
        cases hm
        refine ⟨B, env, Hk, .dat dk, e1, R, h1, fun v Hk1 H1 R1 s1 o1 => ?_⟩
        refine ⟨B, e1, Hk1, .dat d, e2, R1, h2, fun w Hk2 H2 R2 s2 o2 => ?_⟩
        refine pairs_run ⟨B, e2, Hk2, es', _, R2, h3, fun ps Hk3 H3 R3 s3 o3 => ?_⟩
        exact k _ Hk3 H3 R3 ((s1.trans s2).trans s3) (.cons (dv_mono (s2.trans s3) _ _ o1) (dv_mono s3 _ _ o2) o3)
def keysOk (es : List (PyData × PyData)) : Bool := es.all fun p => (keyOf p.1).isSome
theorem prs_kv {Hk : Hp} : ∀ {ps : List (V × V)} {es : List (PyData × PyData)}, PrsAll K Hk ps es → keysOk es = true → ∃ kvs : List (Key × V), ps = kvs.map (fun kv => (kV kv.1, kv.2)) ∧ DvKv K Hk kvs es
  | _, _, .nil, _ => ⟨[], rfl, .nil⟩
  | _, _, .cons (k := k) (d := d) h1 h2 h3, h => by
    unfold keysOk at h
    rw [List.all_cons, Bool.and_eq_true] at h
    obtain ⟨kvs, e, q⟩ := prs_kv h3 h.2
    obtain ⟨kk, hk⟩ := Option.isSome_iff_exists.mp h.1
    have hkd : k = keyD kk := by
      cases k with
      | int i => cases hk; rfl
      | str x => cases hk; rfl
      | _ => cases hk
    have hv := View.key (K := K) (Hk := Hk) (H := Hk) (.inl h1) hk
    subst hkd hv
    exact ⟨(kk, _) :: kvs, by rw [e]; rfl, .cons h2 q⟩
def mDisp (l : List (ME × ME)) : ME := fun env => (mPairs l env).bind fun p => if keysOk p.1 = true ∧ p.1.length ≤ 15 then (dMerge [] p.1).map fun es => (.new (.dct es), p.2) else none
theorem disp_run {l : List (ME × ME)} {Q : VK} (h : tE K (mDisp l) σ H Q) : tDisp (l.map fun p => (tE K (mFrz p.1), tE K (mFrz p.2))) σ H Q := by
  obtain ⟨B, env, Hk, res, env', R, hm, k⟩ := h
  obtain ⟨⟨es, e1⟩, h1, hm⟩ := Option.bind_eq_some_iff.mp hm
  split at hm
  · rename_i hz
    obtain ⟨es', h2, hm⟩ := Option.map_eq_some_iff.mp hm
    cases hm
    intro p hp
    refine pairs_run ⟨B.hold p (.dK []), env, Hk, es, _, R.hold hp, h1, fun ps Hk1 H1 R1 s1 o1 => ?_⟩
    obtain ⟨R2, hH, hkn, hP, hn⟩ := R.held hp R1
    obtain ⟨kvs, e2, q⟩ := prs_kv o1 hz.1
    refine ⟨hH, kvs, e2, by rw [dvKv_len q]; exact hz.2, ?_⟩
    refine k _ Hk1 _ (R2.other hkn (R.fresh0 hp) hP (fun x z => by rw [hH] at z; cases z) hn) s1 ⟨p, rfl, hkn, R.fresh0 hp, ⟨_, upd_same, dvKv_merge q .nil h2⟩, hP, hn⟩
  · cases hm
inductive VPs (X : Cx) : List (Option Expr) → List Expr → List (ME × ME) → Prop
  | nil : VPs X [] [] []
  | cons {k v : Expr} {mk mv : ME} {ks : List (Option Expr)} {vs : List Expr} {l : List (ME × ME)} : VE X k mk → VE X v mv → VPs X ks vs l → VPs X (some k :: ks) (v :: vs) ((mk, mv) :: l)
theorem VPs.pps {pos : Pos} : ∀ {ks : List (Option Expr)} {vs : List Expr} {l : List (ME × ME)}, VPs X ks vs l → PPs X pos ks vs (l.map fun p => (tE X.K (mFrz p.1), tE X.K (mFrz p.2)))
  | _, _, _, .nil => pps_nil
  | _, _, _, .cons h1 h2 h3 => pps_cons (ve_frz h1) (ve_frz h2) (VPs.pps h3)
theorem ve_disp {pos : Pos} {ks : List (Option Expr)} {vs : List Expr} {l : List (ME × ME)} (h : VPs X ks vs l) (hall : ks.all (·.isSome) = true := by rfl) (hl : ks.length = vs.length := by rfl) (h0 : ks ≠ [] := by exact List.cons_ne_nil _ _) (h15 : ks.length ≤ 15 := by decide) : VE X (.Dict ks vs pos) (mDisp l) :=
  (pe_disp h.pps hall hl h0 h15).imp fun _ _ _ => disp_run
def mDNew : ME := fun env => some (.new (.dct []), env)
theorem dnew_run {Q : VK} (h : tE K mDNew σ H Q) : tDNewK σ H Q := by
  obtain ⟨B, env, Hk, res, env', R, hm, k⟩ := h
  cases hm
  intro p hp
  obtain ⟨Hk2, R2, s2, o2⟩ := R.out (r := .new (.dct [])) ⟨p, [], rfl, hp, rfl, .nil⟩
  exact k _ Hk2 _ R2 s2 o2
theorem ve_dnew {pos : Pos} : VE X (.Dict [] [] pos) mDNew := pe_dnewK.imp fun _ _ _ => dnew_run
/-! ### dict(pairs), len(d) -/
def prsD : List PyData → Option (List (PyData × PyData))
  | [] => some []
  | .tuple [k, d] :: r => (prsD r).map ((k, d) :: ·)
  | _ :: _ => none
def gDict : List PyData → Option Res
  | [.list ds] => (prsD ds).bind fun es => if keysOk es = true then (dMerge [] es).map fun es => .new (.dct es) else none
  | _ => none
theorem prs_tup {Hk : Hp} (e : Same Hk H) : ∀ {ds : List PyData} {vs : List V} {es : List (PyData × PyData)}, DvAll K Hk vs ds → prsD ds = some es → keysOk es = true → ∃ (ps : List Addr) (kvs : List (Key × V)), vs = ps.map V.ref ∧ Paired (fun p kv => SqT K H p [kV kv.1, kv.2]) ps kvs ∧ DvKv K Hk kvs es
  | [], _, _, .nil, h, _ => by
    cases h
    exact ⟨[], [], rfl, .nil, .nil⟩
  | d :: ds, _, es, .cons h1 h2, h, hz => by
    unfold prsD at h
    split at h
    · rename_i z; cases z
    · rename_i k d' r z
      cases z
      obtain ⟨es', q1, rfl⟩ := Option.map_eq_some_iff.mp h
      unfold keysOk at hz
      rw [List.all_cons, Bool.and_eq_true] at hz
      obtain ⟨ps, kvs, e1, e2, e3⟩ := prs_tup e h2 q1 hz.2
      cases h1 with
      | tup g1 g2 =>
        cases g2 with
        | cons g2 g3 =>
          cases g3 with
          | cons g3 g4 =>
            cases g4
            obtain ⟨kk, hk⟩ := Option.isSome_iff_exists.mp hz.1
            have hkd : k = keyD kk := by
              cases k with
              | int i => cases hk; rfl
              | str x => cases hk; rfl
              | _ => cases hk
            have hv := View.key (K := K) (Hk := Hk) (H := Hk) (.inl g2) hk
            subst hkd hv
            exact ⟨_ :: ps, (kk, _) :: kvs, by rw [e1]; rfl, .cons (same_tup e g1) e2, .cons g3 e3⟩
    · cases h
theorem cd_dict : CallD K (fun xs H Q => ∃ (a : Addr) (ps : List Addr) (kvs : List (Key × V)), xs = [.ref a] ∧ SqL K H a (ps.map V.ref) ∧ Paired (fun p kv => SqT K H p [kV kv.1, kv.2]) ps kvs ∧ ∀ p, H p = none → Q (.ref p) (upd H p (.dK (mergeK [] kvs)))) gDict := by
  intro Hk H vs ds res Q e hv h q
  unfold gDict at h
  split at h
  · obtain ⟨es, h1, h⟩ := Option.bind_eq_some_iff.mp h
    split at h
    · rename_i hz
      obtain ⟨es', h2, rfl⟩ := Option.map_eq_some_iff.mp h
      cases hv with
      | cons v1 v2 =>
        cases v2
        obtain ⟨a, ws, rfl, g1, g2⟩ := v1.list e
        obtain ⟨ps, kvs, e1, e2, e3⟩ := prs_tup e g2 h1 hz
        subst e1
        exact ⟨a, ps, kvs, rfl, SqL.of g1, e2, fun p hp => q _ _ ⟨p, _, rfl, hp, rfl, dvKv_merge e3 .nil h2⟩⟩
    · cases h
  · cases h
end
end Cm
namespace Cm
open PySem L2
/-! ### walks of a dict: it is locked then, and changes no more -/
def tLk (t : TE) : TE := fun σ H Q => t σ H fun x H1 => ∃ d kvs, x = .ref d ∧ H1 d = some (.dK kvs) ∧ ∀ od, Q x (upd H1 d (.frz od (.dK kvs)))
theorem pe_lk {X : Cx} {e : Expr} {t : TE} (h : PE X e t) : PE X e (tLk t) := ⟨fun pins s σ H Q I q =>
  thn (h.run pins s σ H _ I q) fun u s1 ⟨x, H1, I1, rx, d, kvs, ex, hd, q⟩ => by
    obtain ⟨od, I2⟩ := I1.lock hd trivial
    exact ⟨x, _, I2, rx, q od⟩⟩
section
variable {X : Cx} {K : PySem.W.Frag} {B : Fb} {env : Sl} {σ : St} {Hk : Kn} {H : Hp}
def lk : Res × Sl → Option (List (PyData × PyData) × Sl)
  | (.new (.dct es), e) => some (es, e)
  | (.slt i, e) => match e[i]? with
    | some (.own (.dct es)) => some (es, e.set i (.val (.dict es)))
    | _ => none
  | _ => none
theorem Rel.lk (R : Rel K B env σ Hk H) {r : Res} {v : V} {es : List (PyData × PyData)} {env' : Sl} (o : ResOk K B env σ Hk H r v) (h : Cm.lk (r, env) = some (es, env')) :
    ∃ d kvs, v = .ref d ∧ H d = some (.dK kvs) ∧ DvKv K Hk kvs es ∧ ∀ od, Rel K B env' σ (Hk.upd d (.frz od (.dK kvs))) (upd H d (.frz od (.dK kvs))) ∧ KSame Hk (Hk.upd d (.frz od (.dK kvs))) := by
  cases r with
  | dat d => cases h
  | pv p => cases h
  | new c =>
    cases c with
    | lst ds => cases h
    | dct es' =>
      cases h
      obtain ⟨a, rfl, h1, h2, ⟨kvs, h3, h4⟩, hP, h5⟩ := o
      refine ⟨a, kvs, rfl, h3, h4, fun od => ⟨?_, ksame_upd h1⟩⟩
      exact (R.other (u := .frz od (.dK kvs)) h1 h2 hP (fun x z => by rw [h3] at z; cases z) h5).know upd_same h1 h2 hP h5
  | slt i =>
    unfold Cm.lk at h
    have o : σ[i]? = some (some v) := o
    cases q : env[i]? with
    | none => simp only [q] at h; cases h
    | some s =>
      simp only [q] at h
      cases s with
      | no => cases h
      | scr ns => cases h
      | pin a => cases h
      | pv p => cases h
      | sto M => cases h
      | io k c => cases h
      | val d => cases h
      | own c =>
        cases c with
        | lst ds => cases h
        | dct es' =>
          cases h
          obtain ⟨o', g1, a, e1, q1, q2, kvs, q3, q4⟩ := R.slot i _ q
          rw [o] at g1
          cases g1
          cases e1
          refine ⟨a, kvs, rfl, q3, q4, fun od => ⟨?_, ksame_upd q1⟩⟩
          have hlt : i < σ.length := (List.getElem?_eq_some_iff.mp o).1
          have R1 : Rel K B (env.set i .no) σ Hk H := by
            have := R.setNo (i := i) (o := some (.ref a))
            rwa [show σ.set i (some (.ref a)) = σ from by
              apply List.ext_getElem?
              intro n
              by_cases e : i = n
              · subst e
                rw [List.getElem?_set_self hlt, o]
              · rw [List.getElem?_set_ne e]] at this
          have hn : ∀ (j : Nat) s, (env.set i .no)[j]? = some s → s.mut → σ[j]? ≠ some (some (V.ref a)) := fun j s hj hm z => by
            rcases set_get hj with ⟨rfl, rfl⟩ | ⟨hne, hj⟩
            · cases hm
            · exact hne (R.sep j i s _ a hj q hm trivial z o)
          have hP : ∀ (n : Nat), Hk.P n ≠ some a := fun n => R.psep i _ a n q trivial o
          have R2 := (R1.other (u := .frz od (.dK kvs)) q1 q2 hP (fun x z => by rw [q3] at z; cases z) hn).know upd_same q1 q2 hP hn
          have R3 := R2.setVal (i := i) (v := .ref a) (d := .dict es) (.dct (.inr ⟨od, show upd Hk.k a _ a = _ from upd_same⟩) (dvKv_mono (same_upd q1) q4))
          rw [List.set_set] at R3
          rwa [show σ.set i (some (.ref a)) = σ from by
            apply List.ext_getElem?
            intro n
            by_cases e : i = n
            · subst e
              rw [List.getElem?_set_self hlt, o]
            · rw [List.getElem?_set_ne e]] at R3
def mItK (m : ME) : MI := fun env => (m env).bind fun p => (lk p).map fun q => (q.1.map (·.1), q.2)
def mItV (m : ME) : MI := fun env => (m env).bind fun p => (lk p).map fun q => (q.1.map (·.2), q.2)
def mItI (m : ME) : MI := fun env => (m env).bind fun p => (lk p).map fun q => (q.1.map fun p => .tuple [p.1, p.2], q.2)
theorem iter_keys {d : Addr} {o : Obj} {kvs : List (Key × V)} {es : List (PyData × PyData)} (h : Hk d = some (.frz o (.dK kvs))) (hd : DvKv K Hk kvs es) : IterOk K Hk (Itk d o kvs) (es.map (·.1)) := by
  intro Hk2 H2 s2 e2 i
  have hq := e2 _ _ (s2 _ _ h)
  refine ⟨fun x hx => ?_, fun hl => ⟨hq, by rw [dvKv_len hd]; simpa using hl⟩⟩
  rw [List.getElem?_map] at hx
  obtain ⟨p, h1, rfl⟩ := Option.map_eq_some_iff.mp hx
  obtain ⟨k, v, g1, g2, g3⟩ := dvKv_at hd i p h1
  refine ⟨⟨hq, (List.getElem?_eq_some_iff.mp g1).1⟩, fun y H' z => ?_⟩
  obtain ⟨rfl, k', v', z1, rfl⟩ := z
  rw [g1] at z1
  cases z1
  rw [g2]
  exact .inl ⟨rfl, key_dv k⟩
theorem iter_vals {d : Addr} {o : Obj} {kvs : List (Key × V)} {es : List (PyData × PyData)} (h : Hk d = some (.frz o (.dK kvs))) (hd : DvKv K Hk kvs es) : IterOk K Hk (Itd d o kvs) (es.map (·.2)) := by
  intro Hk2 H2 s2 e2 i
  have hq := e2 _ _ (s2 _ _ h)
  refine ⟨fun x hx => ?_, fun hl => ⟨hq, by rw [dvKv_len hd]; simpa using hl⟩⟩
  rw [List.getElem?_map] at hx
  obtain ⟨p, h1, rfl⟩ := Option.map_eq_some_iff.mp hx
  obtain ⟨k, v, g1, g2, g3⟩ := dvKv_at hd i p h1
  refine ⟨⟨hq, (List.getElem?_eq_some_iff.mp g1).1⟩, fun y H' z => ?_⟩
  obtain ⟨rfl, k', z1⟩ := z
  rw [g1] at z1
  cases z1
  exact .inl ⟨rfl, dv_mono s2 _ _ g3⟩
theorem iter_items {d : Addr} {o : Obj} {kvs : List (Key × V)} {es : List (PyData × PyData)} (h : Hk d = some (.frz o (.dK kvs))) (hd : DvKv K Hk kvs es) : IterOk K Hk (Iti d o kvs) (es.map fun p => .tuple [p.1, p.2]) := by
  intro Hk2 H2 s2 e2 i
  have hq := e2 _ _ (s2 _ _ h)
  refine ⟨fun x hx => ?_, fun hl => ⟨hq, by rw [dvKv_len hd]; simpa using hl⟩⟩
  rw [List.getElem?_map] at hx
  obtain ⟨p, h1, rfl⟩ := Option.map_eq_some_iff.mp hx
  obtain ⟨k, v, g1, g2, g3⟩ := dvKv_at hd i p h1
  refine ⟨⟨hq, (List.getElem?_eq_some_iff.mp g1).1⟩, fun y H' z => ?_⟩
  obtain ⟨T, k', v', z1, rfl, z2, rfl⟩ := z
  rw [g1] at z1
  cases z1
  rw [g2]
  exact .inr ⟨T, _, _, rfl, rfl, z2, rfl, .cons (key_dv k) (.cons (dv_mono s2 _ _ g3) .nil)⟩
theorem itK_run {m : ME} {R : It → Hp → Prop} (h : tI K (mItK m) σ H R) : iKeys (tLk (tE K m)) σ H R := by
  obtain ⟨B, env, Hk, ds, env', R0, hm, k⟩ := h
  obtain ⟨⟨r, e1⟩, h1, hm⟩ := Option.bind_eq_some_iff.mp hm
  obtain ⟨⟨es, e2⟩, h2, hm⟩ := Option.map_eq_some_iff.mp hm
  cases hm
  refine ⟨B, env, Hk, r, e1, R0, h1, fun v Hk1 H1 R1 s1 o1 => ?_⟩
  obtain ⟨d, kvs, rfl, g1, g2, g3⟩ := R1.lk o1 h2
  refine ⟨d, kvs, rfl, g1, fun od => ⟨d, od, rfl, .inl ⟨kvs, upd_same, ?_⟩⟩⟩
  obtain ⟨R2, s2⟩ := g3 od
  exact k _ _ _ R2 (s1.trans s2) (iter_keys upd_same (dvKv_mono s2 g2))
theorem itV_run {m : ME} {R : It → Hp → Prop} (h : tI K (mItV m) σ H R) : iVals (tLk (tE K m)) σ H R := by
  obtain ⟨B, env, Hk, ds, env', R0, hm, k⟩ := h
  obtain ⟨⟨r, e1⟩, h1, hm⟩ := Option.bind_eq_some_iff.mp hm
  obtain ⟨⟨es, e2⟩, h2, hm⟩ := Option.map_eq_some_iff.mp hm
  cases hm
  refine ⟨B, env, Hk, r, e1, R0, h1, fun v Hk1 H1 R1 s1 o1 => ?_⟩
  obtain ⟨d, kvs, rfl, g1, g2, g3⟩ := R1.lk o1 h2
  refine ⟨d, kvs, rfl, g1, fun od => ⟨d, od, kvs, rfl, upd_same, ?_⟩⟩
  obtain ⟨R2, s2⟩ := g3 od
  exact k _ _ _ R2 (s1.trans s2) (iter_vals upd_same (dvKv_mono s2 g2))
theorem itI_run {m : ME} {R : It → Hp → Prop} (h : tI K (mItI m) σ H R) : iItems (tLk (tE K m)) σ H R := by
  obtain ⟨B, env, Hk, ds, env', R0, hm, k⟩ := h
  obtain ⟨⟨r, e1⟩, h1, hm⟩ := Option.bind_eq_some_iff.mp hm
  obtain ⟨⟨es, e2⟩, h2, hm⟩ := Option.map_eq_some_iff.mp hm
  cases hm
  refine ⟨B, env, Hk, r, e1, R0, h1, fun v Hk1 H1 R1 s1 o1 => ?_⟩
  obtain ⟨d, kvs, rfl, g1, g2, g3⟩ := R1.lk o1 h2
  refine ⟨d, kvs, rfl, g1, fun od => ⟨d, od, kvs, rfl, upd_same, ?_⟩⟩
  obtain ⟨R2, s2⟩ := g3 od
  exact k _ _ _ R2 (s1.trans s2) (iter_items upd_same (dvKv_mono s2 g2))
theorem vi_keys {tg e : Expr} {m : ME} (h : VE X e m) : VI X tg e (mItK m) := (pi_keys (pe_lk h)).imp fun _ _ _ => itK_run
theorem vi_vals {tg e : Expr} {m : ME} {apos cpos : Pos} (h : VE X e m) (hb : attributeBase e "values" X.env (eval e X.env) = eval e X.env := by rfl) (hl : (apos.endLine == cpos.line) = true := by rfl) : VI X tg (.Call (.Attribute e "values" apos) [] [] cpos) (mItV m) := (pi_values (pe_lk h) hb hl).imp fun _ _ _ => itV_run
theorem vi_items {elts : List Expr} {kk : Nat} {tpos : Pos} {e : Expr} {m : ME} {apos cpos : Pos} (h : VE X e m) (hb : attributeBase e "items" X.env (eval e X.env) = eval e X.env := by rfl) (hl : (apos.endLine == cpos.line) = true := by rfl) : VI X (.Tuple elts kk tpos) (.Call (.Attribute e "items" apos) [] [] cpos) (mItI m) := (pi_items (pe_lk h) hb hl).imp fun _ _ _ => itI_run
/-! ### sorted(xs), any alike data -/
open PySem.W in
def alikeB (ds : List PyData) : Bool := ds.all fun d => ds.all fun d' => alike d d'
def tupB : PyData → Bool
  | .tuple (_ :: _) => true
  | _ => false
def othB : PyData → Bool
  | .none => false
  | .tuple _ => false
  | _ => true
def sortB (ds : List PyData) : Bool := (ds.all tupB || ds.all othB) && (alikeB ds && (ds.all (fun d => d.canLay0 && decide (d.depth ≤ 60)) && decide (ds.length ≤ 100000)))
theorem sort_of {ds : List PyData} (h : sortB ds = true) : PySem.W.AllAlike ds ∧ PySem.W.Sortable ds ∧ (∀ d ∈ ds, d.canLay0 = true ∧ d.depth ≤ 60) ∧ ds.length ≤ 100000 := by
  unfold sortB at h
  simp only [Bool.and_eq_true, Bool.or_eq_true, List.all_eq_true, decide_eq_true_eq] at h
  obtain ⟨h1, h2, h3, h4⟩ := h
  refine ⟨fun d hd d' hd' => ?_, ?_, fun d hd => h3 d hd, h4⟩
  · unfold alikeB at h2
    exact List.all_eq_true.mp (List.all_eq_true.mp h2 d hd) d' hd'
  · rcases h1 with h1 | h1
    · refine .inl fun d hd => ?_
      have := h1 d hd
      unfold tupB at this
      split at this
      · exact ⟨_, _, rfl⟩
      · cases this
    · refine .inr fun d hd => ?_
      have := h1 d hd
      cases d <;> simp_all [othB]
abbrev byD : V × PyData → V × PyData → Bool := PySem.W.dataLe false (fun b : V × PyData => b.2)
def sortV (xs : List V) (ds : List PyData) : List V := ((xs.zip ds).mergeSort byD).map (·.1)
def sortD (ds : List PyData) : List PyData := ds.mergeSort (PySem.W.dataLe false id)
theorem dvAll_mem {Hk : Hp} : ∀ {vs : List V} {ds : List PyData}, DvAll K Hk vs ds → ∀ p ∈ vs.zip ds, Dv K Hk p.1 p.2
  | _, _, .nil, p, h => by simp at h
  | _, _, .cons h1 h2, p, h => by
    rw [List.zip_cons_cons, List.mem_cons] at h
    rcases h with rfl | h
    · exact h1
    · exact dvAll_mem h2 p h
theorem dvAll_of {Hk : Hp} : ∀ {l : List (V × PyData)}, (∀ p ∈ l, Dv K Hk p.1 p.2) → DvAll K Hk (l.map (·.1)) (l.map (·.2))
  | [], _ => .nil
  | p :: l, h => .cons (h p List.mem_cons_self) (dvAll_of fun q hq => h q (List.mem_cons_of_mem _ hq))
theorem sort_dv {Hk : Hp} {xs : List V} {ds : List PyData} (h : DvAll K Hk xs ds) : DvAll K Hk (sortV xs ds) (sortD ds) := by
  have hl := h.len
  have e : sortD ds = ((xs.zip ds).mergeSort byD).map (·.2) := by
    have e2 : (xs.zip ds).map (fun b : V × PyData => b.2) = ds := List.map_snd_zip (by omega)
    have := List.map_mergeSort (r := byD) (s := PySem.W.dataLe false id) (f := fun b : V × PyData => b.2) (l := xs.zip ds) (fun a _ b _ => rfl)
    rw [e2] at this
    exact this.symm
  rw [e]
  unfold sortV
  exact dvAll_of fun p hp => dvAll_mem h p (List.mem_mergeSort.mp hp)
theorem sortV_len {xs : List V} {ds : List PyData} (h : xs.length = ds.length) : (sortV xs ds).length = xs.length := by
  unfold sortV
  rw [List.length_map, List.length_mergeSort, List.length_zip]
  omega
def rSortX (K : PySem.W.Frag) : List V → Hp → VK → Prop := fun vs H Q => ∃ (a : Addr) (xs : List V) (ds : List PyData), vs = [V.ref a] ∧ SqL K H a xs ∧ DpAll K H xs ds ∧ sortB ds = true ∧
  ∀ p : Addr, H p = none → Q (.ref p) (upd H p (.lst (sortV xs ds)))
theorem dpAll_len : ∀ {vs : List V} {ds : List PyData}, DpAll K H vs ds → vs.length = ds.length
  | _, _, .nil => rfl
  | _, _, .cons _ h => by
    have := dpAll_len h
    simp [this]
theorem each_zip {A : V → Value → Prop} : ∀ {xs : List V} {us : List Value} {ds : List PyData}, Paired RelV xs us → xs.length = ds.length → PySem.W.EachIs (fun (u : Value) (b : V × PyData) => RelV b.1 u) us (xs.zip ds)
  | _, _, [], .nil, _ => .nil
  | _, _, d :: ds, .cons h1 h2, hl => by
    rw [List.zip_cons_cons]
    exact .cons h1 (each_zip (A := A) h2 (by simpa using hl))
theorem each_reads {pins : List (Addr × Obj)} {s : Shared} (I : Inv X pins σ H s) : ∀ {xs : List V} {us : List Value} {ds : List PyData}, Paired RelV xs us → DpAll X.K H xs ds → PySem.W.EachIs (fun (u : Value) (b : V × PyData) => ∃ as, Reads s.heap u b.2 as) us (xs.zip ds)
  | _, _, [], .nil, _ => .nil
  | _, _, d :: ds, .cons h1 h2, hd => by
    cases hd with
    | cons d1 d2 =>
      rw [List.zip_cons_cons]
      exact .cons (Dp.reads I _ _ _ d1 h1) (each_reads I h2 d2)
theorem each_vals : ∀ {us : List Value} {bs : List (V × PyData)}, PySem.W.EachIs (fun (u : Value) (b : V × PyData) => RelV b.1 u) us bs → Vals (bs.map (·.1)) us
  | _, _, .nil => .nil
  | _, _, .cons h1 h2 => .cons h1 (each_vals h2)
theorem cr_sortX (hu : X.A.units + 64 < cLine) : CallR X (.builtin "sorted") (rSortX X.K) := by
  intro pins s σ H vs us Q I r h
  obtain ⟨a, xs, ds, rfl, hs, hd, hb, q⟩ := h
  obtain ⟨its, rv, hl, hz⟩ := I.list hs
  rw [Vals.ref1 r]
  obtain ⟨b1, b2, b3, b4⟩ := sort_of hb
  have hlen := dpAll_len hd
  have em : (xs.zip ds).map (fun b : V × PyData => b.2) = ds := List.map_snd_zip (by omega)
  refine PySem.W.sorted_data (bs := xs.zip ds) (enc := fun b : V × PyData => b.2) (R := fun (u : Value) (b : V × PyData) => RelV b.1 u) hl.isList (each_zip (A := RelV) rv hlen) (each_reads I rv hd) (by rw [em]; exact b1) (by rw [em]; exact b2) ?_ (fun b hb => ?_) fun out h1 h2 => ?_
  · rw [List.length_zip]
    exact Nat.le_trans (Nat.min_le_left _ _) hz
  · have : b.2 ∈ ds := by
      rw [← em]
      exact List.mem_map_of_mem hb
    have := (b3 _ this).2
    omega
  · obtain ⟨ep, he'⟩ := PyProof.Rows.sortedAll_at s.heap its out.toArray
    have hvals : Vals (sortV xs ds) out := each_vals h2
    have hl2 : (sortV xs ds).length ≤ sizeLine := by
      rw [sortV_len hlen]
      exact hz
    exact ⟨.ref _, upd H (s.heap.objs.size + 1) (.lst (sortV xs ds)), I.laid (t' := s.toks) (fun _ _ => PyProof.Rows.sortedAll_old) (Nat.le_succ _) ⟨hl2, out, ep, hvals, he'⟩, rfl, q _ (I.hok.fresh (Nat.le_succ _))⟩
def gSortX : List PyData → Option Res
  | [.list ds] => if sortB ds = true then some (.new (.lst (sortD ds))) else none
  | _ => none
theorem canLayAll_of : ∀ {ds : List PyData}, (∀ d ∈ ds, d.canLay0 = true) → PyData.canLayAll0 ds = true
  | [], _ => by simp [PyData.canLayAll0]
  | d :: ds, h => by
    simp only [PyData.canLayAll0, Bool.and_eq_true]
    exact ⟨h d List.mem_cons_self, canLayAll_of fun x hx => h x (List.mem_cons_of_mem _ hx)⟩
theorem cd_sortX : CallD K (rSortX K) gSortX := by
  intro Hk H vs ds res Q e hv h q
  unfold gSortX at h
  split at h
  · split at h
    · rename_i hz
      cases h
      cases hv with
      | cons v1 v2 =>
        cases v2
        obtain ⟨a, ws, rfl, g1, g2⟩ := v1.list e
        exact ⟨a, ws, _, rfl, SqL.of g1, (dvAll_mono e _ _ g2).dp _ _ (canLayAll_of fun d hd => ((sort_of hz).2.2.1 d hd).1), hz, fun p hp => q _ _ ⟨p, _, rfl, hp, rfl, sort_dv g2⟩⟩
    · cases h
  · cases h
/-! ### sorted of a dict's keys, values, pairs -/
theorem sort_tail {pins : List (Addr × Obj)} {s : Shared} {xs : List V} {us : List Value} {ds : List PyData} {E' : Value → Shared → Prop} {Q : VK} (hu : X.A.units + 64 < cLine) (I : L2.Inv X pins σ H s) (rv : Vals xs us) (hd : DpAll X.K H xs ds) (hb : sortB ds = true) (q : ∀ p, H p = none → Q (.ref p) (upd H p (.lst (sortV xs ds)))) :
    wpAny (model X.prog X.w) X.A.in1 (do
      let l ← newList us
      let _ ← holding [l] (call (.builtin "list.sort") [l] [])
      ret l) (fun f s' => ∃ v, f = .done (.ret v) ∧ EP X pins σ Q v s') E' s := by
  open PySem.W PyProof.Rows in
  · obtain ⟨b1, b2, b3, b4⟩ := sort_of hb
    have hlen := dpAll_len hd
    have hul : us.length = xs.length := rv.length.symm
    have hZ : us.length ≤ sizeLine := by rw [hul, hlen]; exact sz_of b4
    have em : (xs.zip ds).map (fun b : V × PyData => b.2) = ds := List.map_snd_zip (by omega)
    refine wpAny_bind (wpAny_newList ?_ hZ)
    have hoL : (s.heap.push (seqObj "list" us.toArray 0)).get? s.heap.objs.size = some (seqObj "list" us.toArray 0) := Heap.get?_push_size _ rfl
    show wpAny _ _ _ _ _ { s with heap := s.heap.push (seqObj "list" us.toArray 0) }
    have old : ∀ b o, s.heap.get? b = some o → (sortingHeap (s.heap.push (seqObj "list" us.toArray 0)) s.heap.objs.size us).get? b = some o := fun b o e => sortingHeap_old (Nat.ne_of_lt (Heap.lt_size e)) (Heap.get?_push_of_some _ e)
    have e0 := each_zip (A := RelV) (ds := ds) rv hlen
    have er' : EachIs (fun (u : Value) (b : V × PyData) => ∃ as, Reads (sortingHeap (s.heap.push (seqObj "list" us.toArray 0)) s.heap.objs.size us) u b.2 as) us (xs.zip ds) := (each_reads I rv hd).mono fun _ _ ⟨as, r⟩ => ⟨as, PyProof.Rows.Reads.keeps old r⟩
    have hal : AllAlike ((xs.zip ds).map fun b : V × PyData => b.2) := by rw [em]; exact b1
    refine wpAny_bind (wpAny_holding (wpAny_call_entry slot_list_sort ⟨_, hoL, rfl⟩ entry_list_sort (list_sort_vals (κ := dataKind (sortingHeap (s.heap.push (seqObj "list" us.toArray 0)) s.heap.objs.size us) ((xs.zip ds).map fun b : V × PyData => b.2)) (s := { s with heap := s.heap.push (seqObj "list" us.toArray 0) }) hoL
      (SortsAt.data (s := { s with heap := sortingHeap (s.heap.push (seqObj "list" us.toArray 0)) s.heap.objs.size us }) (each_map (R := fun v d => ∃ as, Reads (sortingHeap (s.heap.push (seqObj "list" us.toArray 0)) s.heap.objs.size us) v d as) (fun b : V × PyData => b.2) er') hal (by rw [em]; exact b2) (fun d hd' => ?_)) hZ ⟨.none, rfl, ?_⟩) (args_list_sort _)))
    · rw [em] at hd'
      have := (b3 _ hd').2
      have e1 : X.A.in1.in1.units = X.A.units + 2 := rfl
      rw [e1]
      omega
    · have h2 := sortVals_data false e0 er' hal
      obtain ⟨ep, he'⟩ := sortedHeap_at (vs := us) (out := (sortVals (dataKind (sortingHeap (s.heap.push (seqObj "list" us.toArray 0)) s.heap.objs.size us) ((xs.zip ds).map fun b : V × PyData => b.2)) false us us).toArray) hoL
      have hvals : Vals (sortV xs ds) _ := each_vals h2
      have hl2 : (sortV xs ds).length ≤ sizeLine := by
        rw [sortV_len hlen, ← hul]
        exact hZ
      refine wpAny_pure ⟨_, rfl, .ref s.heap.objs.size, upd H s.heap.objs.size (.lst (sortV xs ds)), I.laid (t' := s.toks) (fun b u e => ?_) (Nat.le_refl _) (show ObjOk X.prog X.w _ _ _ (.lst (sortV xs ds)) from ⟨hl2, _, ep, hvals, he'⟩), rfl, q _ (I.hok.fresh (Nat.le_refl _))⟩
      have hb : b < s.heap.objs.size := Heap.lt_size e
      rw [sortedHeap_old (Nat.ne_of_lt hb) (by rw [size_push']; exact Nat.lt_succ_of_lt hb)]
      exact Heap.get?_push_of_some _ e
theorem key_dp (k : Key) : Dp K H (kV k) (keyD k) := by
  cases k with
  | inl i => exact .int i
  | inr x => exact .str x
theorem keys_dp : ∀ ks : List Key, DpAll K H (ks.map kV) (ks.map keyD)
  | [] => .nil
  | k :: ks => .cons (key_dp k) (keys_dp ks)
def rSortK : List V → Hp → VK → Prop := fun vs H Q => ∃ (a : Addr) (kvs : List (Key × V)), vs = [V.ref a] ∧ Rd H a (.dK kvs) ∧ sortB (kvs.map fun p => keyD p.1) = true ∧
  ∀ p : Addr, H p = none → Q (.ref p) (upd H p (.lst (sortV (kvs.map fun p => kV p.1) (kvs.map fun p => keyD p.1))))
theorem cr_sortK (hc : X.calm = true) (hu : X.A.units + 64 < cLine) : CallR X (.builtin "sorted") rSortK := by
  intro pins s σ H vs us Q I r h
  obtain ⟨a, kvs, rfl, hd, hb, q⟩ := h
  rw [Vals.ref1 r]
  obtain ⟨z, lo, vs, rel, dd⟩ := dk_rd I.hok hd
  obtain ⟨ep, hat⟩ := dd.dictAt
  refine Calls.call_function_entry PyProof.Rows.kind_sorted PyProof.Rows.plain_sorted PyProof.Rows.entry_sorted (PyProof.Rows.args_sorted1 _) ?_
  unfold Builtin.«sorted»
  refine wpAny_bind (m := checkCount "sorted" 1 1 _) (wpAny_pure ?_)
  refine wpAny_bind (PySem.W.kdu_collect (A := X.A.in1) (PySem.W.kdl_dict (knd := mixKind X.prog X.w) (kvs := vs) (ep := ep) lo) (I.ok.hd hc) hat (by rw [← rel.length]; exact z) fun h' tk acc hk hacc => ?_)
  have I1 : Inv X pins σ H { s with heap := h', toks := tk } := I.kept hk
  have hal : acc.toList.length = vs.length := by rw [Array.length_toList, hacc.1]
  have hv : Vals (kvs.map fun p => kV p.1) acc.toList := by
    have := keys_at hal fun j v e => hacc.2 j v (by rw [← Array.getElem?_toList]; exact e)
    have e : (vs.map fun p => kV p.1) = kvs.map fun p => kV p.1 := by
      have := rel.keys
      have h2 := congrArg (List.map kV) this
      rw [List.map_map, List.map_map] at h2
      exact h2.symm
    rw [e] at this
    exact this
  refine sort_tail hu I1 hv ?_ hb q
  have := keys_dp (K := X.K) (H := H) (kvs.map (·.1))
  rw [List.map_map, List.map_map] at this
  exact this
end
end Cm
namespace Cm
open PySem L2
section
variable {X : Cx} {K : PySem.W.Frag} {B : Fb} {env : Sl} {σ : St} {Hk : Kn} {H : Hp}
/-! ### sorted(d.items()), sorted(d.values()) -/
def valsO (p d : Addr) : HO := .ext fun h => h.IsValuesView p d
theorem valsO_ok {P : Program} {w : World} {h : Heap} {p d : Addr} (e : h.get? p = some { cls := .type "dict_values", data := .fields #[.ref d] }) : ObjOk P w H h p (valsO p d) :=
  ⟨⟨_, e, rfl, rfl⟩, ⟨_, e⟩, fun h1 h2 x k => let ⟨o, ho, r⟩ := x; ⟨o, k o ho, r⟩⟩
def rItemsK : V → List V → Hp → VK → Prop := fun x xs H Q => ∃ (a : Addr) (kvs : List (Key × V)), x = .ref a ∧ xs = [] ∧ H a = some (.dK kvs) ∧ ∀ p, H p = none → Q (.ref p) (upd H p (DX.itemsO p a))
def rValsK : V → List V → Hp → VK → Prop := fun x xs H Q => ∃ (a : Addr) (kvs : List (Key × V)), x = .ref a ∧ xs = [] ∧ H a = some (.dK kvs) ∧ ∀ p, H p = none → Q (.ref p) (upd H p (valsO p a))
theorem mt_itemsK : MtR X "dict.items" rItemsK := by
  intro pins s σ H x xs v us Q I rx rxs h
  obtain ⟨a, kvs, rfl, rfl, ha, q⟩ := h
  cases rx
  cases rxs
  obtain ⟨z, hd, vs, rel, dd⟩ := dk_of I.hok ha
  obtain ⟨o, es, ep, ho, hx, hdat, _⟩ := dd
  refine DT.callItems (es := es) (ep := ep) hd ⟨o, ho, hx, hdat⟩ ?_
  exact ⟨.ref s.heap.objs.size, upd H s.heap.objs.size (DX.itemsO s.heap.objs.size a), I.laid (t' := s.toks) (fun b u e => Heap.get?_push_of_some _ e) (Nat.le_refl _) (DX.itemsO_ok (Heap.get?_push_size _ rfl)), rfl, q _ (I.hok.fresh (Nat.le_refl _))⟩
theorem mt_valsK : MtR X "dict.values" rValsK := by
  intro pins s σ H x xs v us Q I rx rxs h
  obtain ⟨a, kvs, rfl, rfl, ha, q⟩ := h
  cases rx
  cases rxs
  obtain ⟨z, hd, vs, rel, dd⟩ := dk_of I.hok ha
  refine call_meetsIn PySem.F.slot_dict_values dd.typeIs PySem.F.entry_dict_values (PySem.F.args_dict_values_1 _) (meets_dict_values (mixKind X.prog X.w) a hd) ⟨⟨vs, dd⟩, ?_⟩
  exact ⟨.ref s.heap.objs.size, upd H s.heap.objs.size (valsO s.heap.objs.size a), I.laid (t' := s.toks) (fun b u e => Heap.get?_push_of_some _ e) (Nat.le_refl _) (valsO_ok (Heap.get?_push_size _ rfl)), rfl, q _ (I.hok.fresh (Nat.le_refl _))⟩
theorem vals_at : ∀ {us : List Value} {vs : List (Key × Value)}, us.length = vs.length → (∀ (j : Nat) (v : Value), us[j]? = some v → ∃ k, vs[j]? = some (k, v)) → us = vs.map (·.2)
  | [], [], _, _ => rfl
  | u :: us, q :: vs, hl, h => by
    obtain ⟨k, e⟩ := h 0 u rfl
    have e : q = (k, u) := Option.some.inj e
    rw [List.map_cons, ← vals_at (by simpa using hl) fun j v e => by simpa using h (j + 1) v (by simpa using e), e]
  | [], _ :: _, hl, _ => by simp at hl
  | _ :: _, [], hl, _ => by simp at hl
theorem kv_vals : ∀ {kvs : List (Key × V)} {vs : List (Key × Value)}, KV kvs vs → Vals (kvs.map (·.2)) (vs.map (·.2)) := by
  intro kvs vs r
  unfold KV at r
  induction r with
  | nil => exact .nil
  | cons h t ih => exact .cons h.2 ih
theorem kv_at : ∀ {kvs : List (Key × V)} {vs : List (Key × Value)}, KV kvs vs → ∀ (j : Nat) (p : Key × V), kvs[j]? = some p → ∃ w, vs[j]? = some w ∧ p.1 = w.1 ∧ RelV p.2 w.2 := by
  intro kvs vs r
  unfold KV at r
  induction r with
  | nil => intro j p h; simp at h
  | cons h t ih =>
    intro j p e
    cases j with
    | zero =>
      simp at e
      subst e
      exact ⟨_, rfl, h⟩
    | succ j =>
      obtain ⟨w, h1, h2⟩ := ih j p (by simpa using e)
      exact ⟨w, by simpa using h1, h2⟩
def rSortVs (K : PySem.W.Frag) : List V → Hp → VK → Prop := fun vs H Q => ∃ (p a : Addr) (kvs : List (Key × V)) (ds : List PyData), vs = [V.ref p] ∧ H p = some (valsO p a) ∧ H a = some (.dK kvs) ∧ DpAll K H (kvs.map (·.2)) ds ∧ sortB ds = true ∧
  ∀ p : Addr, H p = none → Q (.ref p) (upd H p (.lst (sortV (kvs.map (·.2)) ds)))
theorem cr_sortVs (hc : X.calm = true) (hu : X.A.units + 64 < cLine) : CallR X (.builtin "sorted") (rSortVs X.K) := by
  intro pins s σ H vs us Q I r h
  obtain ⟨p, a, kvs, ds, rfl, hp, hd, hdp, hb, q⟩ := h
  rw [Vals.ref1 r]
  have view : s.heap.IsValuesView p a := (show ObjOk X.prog X.w H s.heap p (valsO p a) from I.hok p _ hp).1
  obtain ⟨z, lo, vs, rel, dd⟩ := dk_of I.hok hd
  obtain ⟨ep, hat⟩ := dd.dictAt
  refine Calls.call_function_entry PyProof.Rows.kind_sorted PyProof.Rows.plain_sorted PyProof.Rows.entry_sorted (PyProof.Rows.args_sorted1 _) ?_
  unfold Builtin.«sorted»
  refine wpAny_bind (m := checkCount "sorted" 1 1 _) (wpAny_pure ?_)
  refine wpAny_bind (PySem.W.kdu_collect (A := X.A.in1) (PySem.W.kdl_values (knd := mixKind X.prog X.w) (r := p) (d := a) (kvs := vs) (ep := ep)) (I.ok.hd hc) ⟨view, hat⟩ (by rw [← rel.length]; exact z) fun h' tk acc hk hacc => ?_)
  have I1 : Inv X pins σ H { s with heap := h', toks := tk } := I.kept hk
  have hal : acc.toList.length = vs.length := by rw [Array.length_toList, hacc.1]
  have hv : Vals (kvs.map (·.2)) acc.toList := by
    rw [vals_at hal fun j v e => hacc.2 j v (by rw [← Array.getElem?_toList]; exact e)]
    exact kv_vals rel
  exact sort_tail hu I1 hv hdp hb q
/-- the pairs, each a new tuple -/
def rSortIs (K : PySem.W.Frag) : List V → Hp → VK → Prop := fun vs H Q => ∃ (p a : Addr) (kvs : List (Key × V)) (ds : List PyData), vs = [V.ref p] ∧ H p = some (DX.itemsO p a) ∧ H a = some (.dK kvs) ∧ DpAll K H (kvs.map (·.2)) ds ∧
  sortB ((kvs.zip ds).map fun q => PyData.tuple [keyD q.1.1, q.2]) = true ∧
  ∀ (H' : Hp) (as : List Addr) (l : Addr), Same H H' → as.length = kvs.length → as.Nodup → (∀ (i : Nat) (b : Addr), as[i]? = some b → H b = none ∧ ∃ kv, kvs[i]? = some kv ∧ H' b = some (.tup [kV kv.1, kv.2])) → H' l = none →
    Q (.ref l) (upd H' l (.lst (sortV (as.map V.ref) ((kvs.zip ds).map fun q => PyData.tuple [keyD q.1.1, q.2]))))
theorem each_of_get {R : V → PyData → Prop} : ∀ {xs : List V} {ds : List PyData}, xs.length = ds.length → (∀ (i : Nat) (v : V) (d : PyData), xs[i]? = some v → ds[i]? = some d → R v d) → PySem.W.EachIs R xs ds
  | [], [], _, _ => .nil
  | v :: vs, d :: ds, hl, h => .cons (h 0 v d rfl rfl) (each_of_get (by simpa using hl) fun i v d e1 e2 => h (i + 1) v d (by simpa using e1) (by simpa using e2))
  | [], _ :: _, hl, _ => by simp at hl
  | _ :: _, [], hl, _ => by simp at hl
theorem dp_of_each : ∀ {xs : List V} {ds : List PyData}, PySem.W.EachIs (fun v d => Dp K H v d) xs ds → DpAll K H xs ds
  | _, _, .nil => .nil
  | _, _, .cons h1 h2 => .cons h1 (dp_of_each h2)
mutual
theorem dp_mono {H' : Hp} (e : Same H H') : ∀ {v : V} {d : PyData}, Dp K H v d → Dp K H' v d
  | _, _, .non => .non
  | _, _, .bl b => .bl b
  | _, _, .int i => .int i
  | _, _, .str x => .str x
  | _, _, .lst h q => .lst (e.seq h) (dpAll_mono e q)
  | _, _, .tup h q => .tup (same_tup e h) (dpAll_mono e q)
theorem dpAll_mono {H' : Hp} (e : Same H H') : ∀ {v : List V} {d : List PyData}, DpAll K H v d → DpAll K H' v d
  | _, _, .nil => .nil
  | _, _, .cons h1 h2 => .cons (dp_mono e h1) (dpAll_mono e h2)
end
theorem dpAll_get : ∀ {xs : List V} {ds : List PyData}, DpAll K H xs ds → ∀ (i : Nat) (v : V) (d : PyData), xs[i]? = some v → ds[i]? = some d → Dp K H v d
  | _, _, .nil, i, v, d, h, _ => by simp at h
  | _, _, .cons h1 h2, 0, v, d, h, h' => by
    simp at h h'
    rw [← h, ← h']
    exact h1
  | _, _, .cons h1 h2, i + 1, v, d, h, h' => dpAll_get h2 i v d (by simpa using h) (by simpa using h')
theorem cr_sortIs (hc : X.calm = true) (hu : X.A.units + 64 < cLine) : CallR X (.builtin "sorted") (rSortIs X.K) := by
  intro pins s σ H vs us Q I r h
  obtain ⟨p, a, kvs, ds, rfl, hp, hd, hdp, hb, q⟩ := h
  rw [Vals.ref1 r]
  have view : s.heap.IsItemsView p a := (show ObjOk X.prog X.w H s.heap p (DX.itemsO p a) from I.hok p _ hp).1
  obtain ⟨z, lo, vs, rel, dd⟩ := dk_of I.hok hd
  obtain ⟨es, ep, hraw, hsz, hent⟩ := Heap.DictOf.raw dd
  have hkl : kvs.length = vs.length := rel.length
  have hdl : kvs.length = ds.length := by
    have := dpAll_len hdp
    rw [List.length_map] at this
    exact this
  refine Calls.call_function_entry PyProof.Rows.kind_sorted PyProof.Rows.plain_sorted PyProof.Rows.entry_sorted (PyProof.Rows.args_sorted1 _) ?_
  unfold Builtin.«sorted»
  refine wpAny_bind (m := checkCount "sorted" 1 1 _) (wpAny_pure ?_)
  refine wpAny_bind (DT.collectI (A := X.A.in1) (es := es) (ep := ep) (I.ok.hd hc) view hraw (by rw [hsz, ← hkl]; exact z) fun h' tk as hk hlt hl hG => ?_)
  have I1 : Inv X pins σ H { s with heap := h', toks := tk } := I.kept hk
  have nd : as.Nodup := List.Pairwise.imp (fun h => Nat.ne_of_lt h) hG.rise
  have lak : as.length = kvs.length := by rw [hl, hsz, hkl]
  have pr : ∀ (j : Nat) (b : Addr), as[j]? = some b → ∃ (kv : Key × V) (u1 u2 : Value), kvs[j]? = some kv ∧ RelV (kV kv.1) u1 ∧ RelV kv.2 u2 ∧ h'.get? b = some { cls := .type "tuple", data := .seq #[u1, u2] } := by
    intro j b hj
    obtain ⟨en, he, hg⟩ := hG.pairs j b hj
    obtain ⟨hj2, he2⟩ := Array.getElem?_eq_some_iff.mp he
    have hjk : j < kvs.length := by rw [hkl, ← hsz]; exact hj2
    obtain ⟨w, hw, rk, rw'⟩ := kv_at rel j _ (List.getElem?_eq_getElem hjk)
    obtain ⟨e1, e2⟩ := hent j hj2 w.1 w.2 hw
    refine ⟨kvs[j], en.key, en.val, List.getElem?_eq_getElem hjk, ?_, ?_, hg⟩
    · rw [← he2]
      have : RelV (kV w.1) es[j].key := relV_key e1
      rw [rk]
      exact this
    · rw [← he2, e2]
      exact rw'
  obtain ⟨H2, I2, g1, g2⟩ := DX.takeT (P := fun b ws => ∃ (j : Nat) (kv : Key × V), as[j]? = some b ∧ kvs[j]? = some kv ∧ ws = [kV kv.1, kv.2]) I as H I1 nd fun b hb' => by
    obtain ⟨j, hj⟩ := List.mem_iff_getElem?.mp hb'
    obtain ⟨kv, u1, u2, k1, k2, k3, k4⟩ := pr j b hj
    have hbs : s.heap.objs.size ≤ b := Nat.le_of_lt (hG.above b hb')
    exact ⟨hbs, I.hok.fresh hbs, _, ⟨j, kv, hj, k1, rfl⟩, fun H2 => ⟨by show 2 ≤ sizeLine; decide, [u1, u2], .cons k2 (.cons k3 .nil), ⟨_, k4, rfl, _, rfl⟩⟩⟩
  have at_ : ∀ (i : Nat) (b : Addr), as[i]? = some b → H b = none ∧ ∃ kv, kvs[i]? = some kv ∧ H2 b = some (.tup [kV kv.1, kv.2]) := by
    intro i b hi
    have hm := List.mem_of_getElem? hi
    obtain ⟨ws, ⟨j, kv, k1, k2, rfl⟩, k3⟩ := g2 b hm
    have : i = j := by
      have hi' : i < as.length := (List.getElem?_eq_some_iff.mp hi).1
      exact (List.getElem?_inj hi' nd).mp (hi.trans k1.symm)
    subst this
    exact ⟨I.hok.fresh (Nat.le_of_lt (hG.above b hm)), kv, k2, k3⟩
  have hv : Vals (as.map V.ref) (as.map Value.ref) := by
    clear pr at_ g2 hG lak hl nd I2 q
    induction as with
    | nil => exact .nil
    | cons b as ih => exact .cons rfl ih
  refine sort_tail hu I2 hv (dp_of_each (each_of_get (by simp [lak, hdl]) fun i v d e1 e2 => ?_)) hb fun l hl' => q H2 as l g1 lak nd at_ hl'
  rw [List.getElem?_map] at e1 e2
  obtain ⟨b, b1, rfl⟩ := Option.map_eq_some_iff.mp e1
  obtain ⟨⟨kv', d'⟩, b2, rfl⟩ := Option.map_eq_some_iff.mp e2
  obtain ⟨_, kv, k1, k2⟩ := at_ i b b1
  rw [List.getElem?_zip_eq_some] at b2
  have : kv = kv' := Option.some.inj (k1.symm.trans b2.1)
  subst this
  exact .tup (SqT.of k2) (.cons (key_dp kv.1) (.cons (dp_mono g1 (dpAll_get hdp i kv.2 d' (by rw [List.getElem?_map, k1]; rfl) b2.2)) .nil))
/-! value functions -/
def gSortKs : List PyData → Option Res
  | [.dict es] => if sortB (es.map (·.1)) = true then some (.new (.lst (sortD (es.map (·.1))))) else none
  | _ => none
theorem dvKv_keys : ∀ {kvs : List (Key × V)} {es : List (PyData × PyData)}, DvKv K H kvs es → (kvs.map fun p => keyD p.1) = es.map (·.1)
  | _, _, .nil => rfl
  | _, _, .cons _ h => by
    rw [List.map_cons, List.map_cons, dvKv_keys h]
theorem keys_dv : ∀ kvs : List (Key × V), DvAll K H (kvs.map fun p => kV p.1) (kvs.map fun p => keyD p.1)
  | [] => .nil
  | k :: ks => .cons (key_dv k.1) (keys_dv ks)
theorem cd_sortKs : CallD K rSortK gSortKs := by
  intro Hk H vs ds res Q e hv h q
  unfold gSortKs at h
  split at h
  · split at h
    · rename_i hz
      cases h
      cases hv with
      | cons v1 v2 =>
        cases v2
        obtain ⟨a, kvs, rfl, g1, g2⟩ := v1.dict e
        have ek := dvKv_keys g2
        refine ⟨a, kvs, rfl, g1, by rw [ek]; exact hz, fun p hp => q _ _ ⟨p, _, rfl, hp, rfl, ?_⟩⟩
        rw [← ek]
        exact sort_dv (keys_dv (K := K) (H := Hk) kvs)
    · cases h
  · cases h
/-- a dict that may still be changed, or is new -/
def dctOf : Res × Sl → Option (List (PyData × PyData))
  | (.new (.dct es), _) => some es
  | (.slt i, e) => match e[i]? with
    | some (.own (.dct es)) => some es
    | some (.io _ (.dct es)) => some es
    | _ => none
  | (.pv (.ref n), e) => match (sto e)[n]? with
    | some (.dct es) => datsK es
    | _ => none
  | _ => none
theorem Rel.dctOf (R : Rel K B env σ Hk H) {r : Res} {v : V} {es : List (PyData × PyData)} (o : ResOk K B env σ Hk H r v) (h : Cm.dctOf (r, env) = some es) : ∃ a kvs, v = .ref a ∧ H a = some (.dK kvs) ∧ DvKv K Hk kvs es := by
  cases r with
  | dat d => cases h
  | pv p =>
    cases p with
    | dat d => cases h
    | tup ps => cases h
    | ref n =>
      unfold Cm.dctOf at h
      cases hc : (sto env)[n]? with
      | none => simp only [hc] at h; cases h
      | some c =>
        obtain ⟨hS, a, g1, g2, g3⟩ := R.stoAt hc
        cases o with
        | ref q =>
          rw [q] at g1
          cases g1
          simp only [hc] at h
          cases c with
          | dct es' =>
            obtain ⟨kvs, h4, h5⟩ := g2
            exact ⟨_, kvs, rfl, h4, datsK_dv h5 h⟩
          | _ => cases h
  | new c =>
    cases c with
    | lst ds => cases h
    | dct es' =>
      cases h
      obtain ⟨a, rfl, h1, h2, ⟨kvs, h3, h4⟩, h5⟩ := o
      exact ⟨a, kvs, rfl, h3, h4⟩
  | slt i =>
    unfold Cm.dctOf at h
    have o : σ[i]? = some (some v) := o
    cases q : env[i]? with
    | none => simp only [q] at h; cases h
    | some s =>
      simp only [q] at h
      obtain ⟨o', g1, g2⟩ := R.slot i _ q
      rw [o] at g1
      cases g1
      cases s with
      | no => cases h
      | scr ns => cases h
      | pin a => cases h
      | pv p => cases h
      | sto M => cases h
      | val d => cases h
      | own c =>
        cases c with
        | lst ds => cases h
        | dct es' =>
          cases h
          obtain ⟨a, e1, q1, q2, kvs, q3, q4⟩ := g2
          cases e1
          exact ⟨a, kvs, rfl, q3, q4⟩
      | io k c =>
        cases c with
        | lst ds => cases h
        | dct es' =>
          cases h
          obtain ⟨a, e1, q1, q2, kvs, q3, q4⟩ := g2
          cases e1
          exact ⟨a, kvs, rfl, q3, q4⟩
def mSortVs (m : ME) : ME := fun env => (m env).bind fun p => (dctOf p).bind fun es => if sortB (es.map (·.2)) = true then some (.new (.lst (sortD (es.map (·.2)))), p.2) else none
def mSortIs (m : ME) : ME := fun env => (m env).bind fun p => (dctOf p).bind fun es => if sortB (es.map fun p => .tuple [p.1, p.2]) = true then some (.new (.lst (sortD (es.map fun p => .tuple [p.1, p.2]))), p.2) else none
theorem dvKv_vals : ∀ {kvs : List (Key × V)} {es : List (PyData × PyData)}, DvKv K H kvs es → DvAll K H (kvs.map (·.2)) (es.map (·.2))
  | _, _, .nil => .nil
  | _, _, .cons h h2 => .cons h (dvKv_vals h2)
theorem sortVs_run {m : ME} {Q : VK} (h : tE K (mSortVs m) σ H Q) : tCB (rSortVs K) (tCons (tBM0 K "dict" rValsK (tE K m)) tNil) σ H Q := by
  obtain ⟨B, env, Hk, res, env', R, hm, k⟩ := h
  obtain ⟨⟨r, e1⟩, h1, hm⟩ := Option.bind_eq_some_iff.mp hm
  obtain ⟨es, h2, hm⟩ := Option.bind_eq_some_iff.mp hm
  split at hm
  · rename_i hz
    cases hm
    refine ⟨B, env, Hk, r, e1, R, h1, fun v Hk1 H1 R1 s1 o1 => ?_⟩
    obtain ⟨a, kvs, rfl, g1, g2⟩ := R1.dctOf o1 h2
    refine ⟨.inr (.inr (.inl ⟨rfl, .inl ⟨_, g1⟩⟩)), a, kvs, rfl, rfl, g1, fun p hp => ?_⟩
    have sm : Same H1 (upd H1 p (valsO p a)) := same_upd hp
    have R2 : Rel K B e1 σ Hk1 (upd H1 p (valsO p a)) := R1.laid hp
    have dv := dvKv_vals g2
    show rSortVs K [V.ref p] (upd H1 p (valsO p a)) Q
    refine ⟨p, a, kvs, es.map (·.2), rfl, upd_same, sm _ _ g1, (dvAll_mono (R1.ex.trans sm) _ _ dv).dp _ _ (canLayAll_of fun d hd => ((sort_of hz).2.2.1 d hd).1), hz, fun l hl => ?_⟩
    obtain ⟨Hk3, R3, s3, o3⟩ := R2.out (r := .new (.lst (sortD (es.map (·.2))))) ⟨l, _, rfl, hl, rfl, sort_dv dv⟩
    exact k _ Hk3 _ R3 (s1.trans s3) o3
  · cases hm
theorem ve_sortVs {e : Expr} {m : ME} {p apos cpos pos : Pos} (hmg : X.mg "sorted" = none) (hr : X.A.units + 64 < cLine) (h : VE X e m) (hc : X.calm = true := by rfl) (hg : Gl X "sorted" := by rfl) (hb : attributeBase e "values" X.env (eval e X.env) = eval e X.env := by rfl) (hl : (apos.endLine == cpos.line) = true := by rfl)
    (hs : starEach [.Call (.Attribute e "values" apos) [] [] cpos] X.env = (false, eval (.Call (.Attribute e "values" apos) [] [] cpos) X.env) :: starEach [] X.env := by rfl) (hbt : bootBuiltins "sorted" = some (.builtin "sorted") := by decide +kernel) :
    VE X (.Call (.Name "sorted" p) [.Call (.Attribute e "values" apos) [] [] cpos] [] pos) (mSortVs m) :=
  (pe_callB (cr_sortVs hc hr) hg hmg hbt (pa_cons (pe_bm0 PySem.F.plainAttrs_dict PySem.F.slot_dict_values PySem.F.type_dict_values mt_valsK h hb hl) pa_nil hs) (by decide) (by decide) hs rfl).imp fun _ _ _ => sortVs_run
theorem zip_prs : ∀ {kvs : List (Key × V)} {es : List (PyData × PyData)}, DvKv K H kvs es → (kvs.zip (es.map (·.2))).map (fun q => PyData.tuple [keyD q.1.1, q.2]) = es.map fun p => .tuple [p.1, p.2]
  | _, _, .nil => rfl
  | _, _, .cons _ h => by
    rw [List.map_cons, List.zip_cons_cons, List.map_cons, List.map_cons, zip_prs h]
open Classical in
/-- known, and these tuples -/
noncomputable def kwith (Hk H : Hp) (as : List Addr) : Hp := fun a => if a ∈ as then H a else Hk a
theorem sortIs_run {m : ME} {Q : VK} (h : tE K (mSortIs m) σ H Q) : tCB (rSortIs K) (tCons (tBM0 K "dict" rItemsK (tE K m)) tNil) σ H Q := by
  obtain ⟨B, env, Hk, res, env', R, hm, k⟩ := h
  obtain ⟨⟨r, e1⟩, h1, hm⟩ := Option.bind_eq_some_iff.mp hm
  obtain ⟨es, h2, hm⟩ := Option.bind_eq_some_iff.mp hm
  split at hm
  · rename_i hz
    cases hm
    refine ⟨B, env, Hk, r, e1, R, h1, fun v Hk1 H1 R1 s1 o1 => ?_⟩
    obtain ⟨a, kvs, rfl, g1, g2⟩ := R1.dctOf o1 h2
    refine ⟨.inr (.inr (.inl ⟨rfl, .inl ⟨_, g1⟩⟩)), a, kvs, rfl, rfl, g1, fun p hp => ?_⟩
    have sm : Same H1 (upd H1 p (DX.itemsO p a)) := same_upd hp
    have R2 : Rel K B e1 σ Hk1 (upd H1 p (DX.itemsO p a)) := R1.laid hp
    have dv := dvKv_vals g2
    have zp := zip_prs g2
    have cl : ∀ d ∈ es.map (·.2), d.canLay0 = true := fun d hd => by
      obtain ⟨q, hq, rfl⟩ := List.mem_map.mp hd
      have := ((sort_of hz).2.2.1 _ (List.mem_map_of_mem hq)).1
      simp [PyData.canLay0, PyData.canLayAll0] at this
      exact this.2
    show rSortIs K [V.ref p] (upd H1 p (DX.itemsO p a)) Q
    refine ⟨p, a, kvs, es.map (·.2), rfl, upd_same, sm _ _ g1, (dvAll_mono (R1.ex.trans sm) _ _ dv).dp _ _ (canLayAll_of cl), by rw [zp]; exact hz, fun H' as l sH lak nd at_ hl => ?_⟩
    rw [zp]
    have inv : ∀ b, b ∈ as → upd H1 p (DX.itemsO p a) b = none ∧ ∃ ws, H' b = some (.tup ws) := fun b hb => by
      obtain ⟨i, hi⟩ := List.mem_iff_getElem?.mp hb
      obtain ⟨z1, kv, _, z2⟩ := at_ i b hi
      exact ⟨z1, _, z2⟩
    have sk : Same Hk1.k (kwith Hk1 H' as) := fun b o e => by
      unfold kwith
      split
      · rename_i hb
        have := R2.ex _ _ e
        rw [(inv b hb).1] at this
        cases this
      · exact e
    have R3 : Rel K B e1 σ ⟨kwith Hk1 H' as, Hk1.P⟩ H' := R2.grow (Hk' := ⟨kwith Hk1 H' as, Hk1.P⟩) sk (fun b o e => by
      have e : kwith Hk1 H' as b = some o := e
      unfold kwith at e
      split at e
      · exact e
      · exact sH _ _ (R2.ex _ _ e)) sH fun b z1 z2 => by
      have z1 : kwith Hk1 H' as b ≠ none := z1
      unfold kwith at z1
      split at z1
      · rename_i hb
        exact (inv b hb).1
      · exact absurd z2 z1
    have da : DvAll K (kwith Hk1 H' as) (as.map V.ref) (es.map fun p => PyData.tuple [p.1, p.2]) := by
      have : ∀ (i : Nat) (v : V) (d : PyData), (as.map V.ref)[i]? = some v → (es.map fun p => PyData.tuple [p.1, p.2])[i]? = some d → Dv K (kwith Hk1 H' as) v d := fun i v d x1 x2 => by
        rw [List.getElem?_map] at x1 x2
        obtain ⟨b, y1, rfl⟩ := Option.map_eq_some_iff.mp x1
        obtain ⟨e0, y2, rfl⟩ := Option.map_eq_some_iff.mp x2
        obtain ⟨z1, kv, z2, z3⟩ := at_ i b y1
        obtain ⟨k', v', w1, w2, w3⟩ := dvKv_at g2 i e0 y2
        rw [z2] at w1
        cases w1
        rw [w2]
        refine .tup (SqT.of ?_) (.cons (key_dv k') (.cons (dv_mono sk _ _ w3) .nil))
        unfold kwith
        rw [if_pos (List.mem_of_getElem? y1)]
        exact z3
      have hlen : (as.map V.ref).length = (es.map fun p => PyData.tuple [p.1, p.2]).length := by
        rw [List.length_map, List.length_map, lak, dvKv_len g2]
      generalize as.map V.ref = xs at this hlen
      generalize (es.map fun p => PyData.tuple [p.1, p.2]) = ys at this hlen
      clear hz zp
      induction xs generalizing ys with
      | nil =>
        cases ys with
        | nil => exact .nil
        | cons _ _ => simp at hlen
      | cons x xs ih =>
        cases ys with
        | nil => simp at hlen
        | cons y ys => exact .cons (this 0 x y rfl rfl) (ih ys (fun i v d z1 z2 => this (i + 1) v d (by simpa using z1) (by simpa using z2)) (by simpa using hlen))
    obtain ⟨Hk4, R4, s4, o4⟩ := R3.out (r := .new (.lst (sortD (es.map fun p => .tuple [p.1, p.2])))) ⟨l, _, rfl, hl, rfl, sort_dv da⟩
    exact k _ Hk4 _ R4 ((s1.trans (c := ⟨kwith Hk1 H' as, Hk1.P⟩) ⟨sk, fun _ _ z => z⟩).trans s4) o4
  · cases hm
theorem ve_sortIs {e : Expr} {m : ME} {p apos cpos pos : Pos} (hmg : X.mg "sorted" = none) (hr : X.A.units + 64 < cLine) (h : VE X e m) (hc : X.calm = true := by rfl) (hg : Gl X "sorted" := by rfl) (hb : attributeBase e "items" X.env (eval e X.env) = eval e X.env := by rfl) (hl : (apos.endLine == cpos.line) = true := by rfl)
    (hs : starEach [.Call (.Attribute e "items" apos) [] [] cpos] X.env = (false, eval (.Call (.Attribute e "items" apos) [] [] cpos) X.env) :: starEach [] X.env := by rfl) (hbt : bootBuiltins "sorted" = some (.builtin "sorted") := by decide +kernel) :
    VE X (.Call (.Name "sorted" p) [.Call (.Attribute e "items" apos) [] [] cpos] [] pos) (mSortIs m) :=
  (pe_callB (cr_sortIs hc hr) hg hmg hbt (pa_cons (pe_bm0 PySem.F.plainAttrs_dict PySem.F.slot_dict_items PySem.F.type_dict_items mt_itemsK h hb hl) pa_nil hs) (by decide) (by decide) hs rfl).imp fun _ _ _ => sortIs_run
end
end Cm
namespace Cm
open PySem L2
/-! ### defs of one expression, looked at exactly: the heap grows, nothing else -/
theorem readsAll_get0 {h : Heap} : ∀ {vs : List Value} {ds : List PyData} {as : List Addr}, ReadsAll h vs ds as → as = [] → ∀ (j : Nat) (d : PyData), ds[j]? = some d → ∃ v, vs[j]? = some v ∧ Reads h v d []
  | _, _, _, .nil, _, j, d, e => by simp at e
  | _, _, _, .cons (as := as) (bs := bs) h1 h2, ha, 0, d, e => by
    have ha := List.append_eq_nil_iff.mp ha
    simp at e
    subst e
    rw [ha.1] at h1
    exact ⟨_, rfl, h1⟩
  | _, _, _, .cons h1 h2, ha, j + 1, d, e => by
    have ha := List.append_eq_nil_iff.mp ha
    obtain ⟨v, z1, z2⟩ := readsAll_get0 h2 ha.2 j d (by simpa using e)
    exact ⟨v, by simpa using z1, z2⟩
theorem readsAll_len0 {h : Heap} : ∀ {vs : List Value} {ds : List PyData} {as : List Addr}, ReadsAll h vs ds as → vs.length = ds.length
  | _, _, _, .nil => rfl
  | _, _, _, .cons _ h2 => by
    have := readsAll_len0 h2
    simp [this]
theorem inCall_push {s0 s : Shared} {L : Addr} {m : Str → Option Value} (x : InCall s0 L m s) (o : Obj) : InCall s0 L m { s with heap := s.heap.push o } := by
  obtain ⟨h, tk, rfl⟩ := x.same
  exact ⟨⟨_, tk, rfl⟩, x.ns.push o, fun b o' e => Heap.get?_push_of_some _ (x.keep b o' e), x.fresh⟩
section
variable {P : Program} {w : World} {fd : FuncData} {x : Str}
/-- the value of an expression over one parameter, by a function on data -/
def KX (P : Program) (w : World) (fd : FuncData) (x : Str) (e : Expr) (f : PyData → Option PyData) : Prop :=
  ∀ (s0 : Shared) (L a : Addr) (m : Str → Option Value) (u : Value) (d k : PyData), fd.scope.kind = .function → (callEnv fd L a).kindOf x = some .local → m x = some u → Reads s0.heap u d [] → f d = some k →
    ∀ (A : Around) (E : Value → Shared → Prop) (s : Shared) (Q : Value → Shared → Prop), InCall s0 L m s → (∀ v s', InCall s0 L m s' → (∀ b o, s.heap.get? b = some o → s'.heap.get? b = some o) → Reads s'.heap v k [] → Q v s') →
      wpAny (model P w) A (eval e (callEnv fd L a)) Q E s
theorem kx_name {pos : Pos} (hd : (x == ("__debug__" : Str)) = false := by decide) : KX P w fd x (.Name x pos) some := by
  intro s0 L a m u d k hk hl hm hr hf A E s Q I q
  cases hf
  refine wpAny_Name (wpAny_loadName_local hk hl I.ns hm ?_) hd
  exact q u s I (fun _ _ e => e) (PyProof.Rows.Reads.keeps I.keep hr)
def kItem (i : Int) (f : PyData → Option PyData) (d : PyData) : Option PyData := (f d).bind fun t => match t with
  | .tuple ds => atI ds i
  | _ => none
theorem kx_item {i : Int} {e : Expr} {kk : Nat} {p1 p2 : Pos} {f : PyData → Option PyData} (he : KX P w fd x e f) (h1 : -(2 ^ 62) ≤ i := by decide) (h2 : i < 2 ^ 62 := by decide) : KX P w fd x (.Subscript e (.Constant (.int i) kk p1) p2) (kItem i f) := by
  intro s0 L a m u d k hk hl hm hr hf A E s Q I q
  unfold kItem at hf
  obtain ⟨t, ht, hf⟩ := Option.bind_eq_some_iff.mp hf
  split at hf
  · rename_i ds
    refine PyProof.Rows.Subscript_ (he s0 L a m u d _ hk hl hm hr ht A E s _ I fun v s1 I1 k1 r1 => ?_)
    refine wpAny_Constant_int ?_
    cases r1 with
    | tuple g1 g2 g3 g4 =>
      obtain ⟨j, z1, z2, z3, z4, z5⟩ := atI_get hf
      obtain ⟨v', w1, w2⟩ := readsAll_get0 g4 rfl j _ z2
      have hlen := readsAll_len0 g4
      rw [Array.length_toList] at hlen
      refine PyProof.Rows.subscriptTail_builtinR (x := v') (T := "tuple") (id := "tuple.__getitem__") ⟨_, g1, g2⟩ PyProof.Rows.slot_tuple_getitem.lookup ?_
      refine PyProof.Rows.getItem_tuple (s := { s1 with toks := s1.toks + 1 }) (j := j) ⟨_, g1, g2, _, g3⟩ (by omega) (by omega) (by rw [hlen]; exact z1) (by rw [← Array.getElem?_toList]; exact w1) ⟨rfl, ?_⟩
      exact q v' _ (I1.tok _) k1 w2
  · cases hf
def kNeg (f : PyData → Option PyData) (d : PyData) : Option PyData := (f d).bind fun t => match t with
  | .int i => some (.int (-i))
  | _ => none
theorem kx_neg {e : Expr} {p : Pos} {f : PyData → Option PyData} (he : KX P w fd x e f) : KX P w fd x (.UnaryOp .USub e p) (kNeg f) := by
  intro s0 L a m u d k hk hl hm hr hf A E s Q I q
  unfold kNeg at hf
  obtain ⟨t, ht, hf⟩ := Option.bind_eq_some_iff.mp hf
  split at hf
  · cases hf
    refine PyProof.Rows.UnaryOp_ (he s0 L a m u d _ hk hl hm hr ht A E s _ I fun v s1 I1 k1 r1 => ?_)
    cases r1
    exact PyProof.Rows.neg_int (q _ _ (I1.tok _) k1 (.int _ _))
  · cases hf
def kPair (f g : PyData → Option PyData) (d : PyData) : Option PyData := (f d).bind fun a => (g d).map fun b => .tuple [a, b]
theorem kx_pair {e1 e2 : Expr} {x1} {p : Pos} {f g : PyData → Option PyData} (h1 : KX P w fd x e1 f) (h2 : KX P w fd x e2 g) (ht : ∀ env, backTo p (starEach [e1, e2] env) = [(false, eval e1 env), (false, eval e2 env)] := by intro _; rfl) : KX P w fd x (.Tuple [e1, e2] x1 p) (kPair f g) := by
  intro s0 L a m u d k hk hl hm hr hf A E s Q I q
  unfold kPair at hf
  obtain ⟨k1, hf1, hf⟩ := Option.bind_eq_some_iff.mp hf
  obtain ⟨k2, hf2, rfl⟩ := Option.map_eq_some_iff.mp hf
  refine wpAny_Tuple_spliced ?_
  rw [ht]
  refine Calls.spliced_cons (h1 s0 L a m u d _ hk hl hm hr hf1 A E s _ I fun v1 s1 I1 q1 r1 => ?_)
  refine Calls.spliced_cons (h2 s0 L a m u d _ hk hl hm hr hf2 A E s1 _ I1 fun v2 s2 I2 q2 r2 => ?_)
  refine Calls.spliced_nil ⟨by show 2 ≤ sizeLine; decide, ?_⟩
  refine q _ _ (inCall_push I2 _) (fun b o e => Heap.get?_push_of_some _ (q2 b o (q1 b o e))) ?_
  have k3 : ∀ b o, s2.heap.get? b = some o → (s2.heap.push { cls := .type "tuple", data := .seq #[v1, v2] }).get? b = some o := fun b o e => Heap.get?_push_of_some _ e
  exact .tuple (Heap.get?_push_size _ rfl) rfl rfl (.cons (bs := []) (PyProof.Rows.Reads.keeps (fun b o e => k3 b o (q2 b o e)) r1) (.cons (bs := []) (PyProof.Rows.Reads.keeps k3 r2) .nil))
end
/-- a def of one expression, called: the heap is kept -/
theorem key_call {P : Program} {w : World} {K : PySem.W.Frag} {name qual x : Str} {params : Arguments} {scope : Scope} {f : Addr} {fd : FuncData} {e : Expr} {p : Pos} {g : PyData → Option PyData} {A : Around} {E : Value → Shared → Prop} {s : Shared} {u : Value} {d k : PyData}
    (F : FunD K name qual params [.Return (some e) p] scope [] [] f fd) (S : FnScope [x] [x] scope) (hx : KX P w fd x e g) (hb : ∀ (kV doc pm : Value) (an : Option Addr) (cdv ct : Value), bindArgs (PySem.W.fnOf name qual params [.Return (some e) p] scope .none kV doc pm an cdv ct) ⟨[u], []⟩ = pure [(x, u)])
    (hc : ∀ y ∈ scope.names, y.2 ≠ .cell) (KX : K.In s.heap) (lim : s.heap.NoLimit) (hr : A.depth < recursionLimit) (hd : Reads s.heap u d []) (hk : g d = some k) :
    wpAny (model P w) A (call (.ref f) [u]) (PySem.W.KeyPure k s) E s := by
  obtain ⟨oc, od, dV, kV, doc, pm, an, cdv, ct, osl, rfl, lk, hcd, hD, _⟩ := F.ex
  obtain rfl : dV = .none := by
    rcases hD with ⟨_, e⟩ | ⟨e, _⟩
    · exact e
    · exact absurd rfl e
  have hl : scope.names.lookup x = some .local := by
    rcases S.par x List.mem_cons_self with h | h
    · exact h
    · exact absurd rfl (hc _ (PySem.mem_of_lookup h))
  refine wpAny_call (codeAny_call_straight hr (KX _ _ lk) rfl lim (PySem.W.codeRec_of KX hcd) rfl (hb _ _ _ _ _ _) hc (fun y hy => ?_) (fun s1 I => ?_) S.co S.gen S.kind)
  · rw [List.mem_singleton] at hy
    rw [hy]
    exact hl
  · refine wpAny_execs_cons (wpAny_Return_some (hx s _ f _ u d k S.kind hl (by simp) hd hk _ _ s1 _ I fun v s' I' k' r' => ?_))
    obtain ⟨h', tk, e', q⟩ := I'.done
    subst e'
    exact ⟨h', tk, rfl, q, r'⟩
/-! ### sorted(xs, key=f) -/
mutual
def noL : PyData → Bool
  | .list _ => false
  | .dict _ => false
  | .tuple ds => noLs ds
  | _ => true
def noLs : List PyData → Bool
  | [] => true
  | d :: ds => noL d && noLs ds
end
section
variable {X : Cx} {K : PySem.W.Frag} {B : Fb} {env : Sl} {σ : St} {Hk H : Hp}
mutual
theorem reads0 {pins : List (Addr × Obj)} {s : Shared} (I : Inv X pins σ H s) : ∀ {v : V} {d : PyData}, Dv X.K H v d → noL d = true → ∀ u, RelV v u → Reads s.heap u d []
  | _, _, .non, _, u, r => by cases r; exact .none
  | _, _, .bl b, _, u, r => by cases r; exact .bool b
  | _, _, .int i, _, u, r => by obtain ⟨t, rfl⟩ := r; exact .int i t
  | _, _, .str x, _, u, r => by obtain ⟨t, rfl⟩ := r; exact .str x t
  | _, _, .lst _ _, h, _, _ => by simp [noL] at h
  | _, _, .dct _ _, h, _, _ => by simp [noL] at h
  | _, _, .tup h q, hn, u, r => by
    cases r
    obtain ⟨its, rv, ⟨o, g1, g2, n, g3⟩, _⟩ := I.tuple h
    exact .tuple g1 g2 g3 (readsAll0 I q (by simpa [noL] using hn) _ rv)
theorem readsAll0 {pins : List (Addr × Obj)} {s : Shared} (I : Inv X pins σ H s) : ∀ {vs : List V} {ds : List PyData}, DvAll X.K H vs ds → noLs ds = true → ∀ us, Vals vs us → ReadsAll s.heap us ds []
  | _, _, .nil, _, us, r => by cases r; exact .nil
  | _, _, .cons (d := d) (ds := ds) h1 h2, hn, us, r => by
    have hn : noL d = true ∧ noLs ds = true := by simpa [noLs] using hn
    cases r with
    | cons r1 r2 => exact .cons (bs := []) (reads0 I h1 hn.1 _ r1) (readsAll0 I h2 hn.2 _ r2)
end
def keysBy (kf : PyData → Option PyData) : List PyData → Option (List PyData)
  | [] => some []
  | d :: ds => (kf d).bind fun k => (keysBy kf ds).map (k :: ·)
theorem keysBy_len {kf : PyData → Option PyData} : ∀ {ds ks : List PyData}, keysBy kf ds = some ks → ks.length = ds.length
  | [], ks, h => by cases h; rfl
  | d :: ds, ks, h => by
    obtain ⟨k, h1, h⟩ := Option.bind_eq_some_iff.mp h
    obtain ⟨ks', h2, rfl⟩ := Option.map_eq_some_iff.mp h
    simp [keysBy_len h2]
theorem keysBy_mem {kf : PyData → Option PyData} : ∀ {ds ks : List PyData}, keysBy kf ds = some ks → ∀ p ∈ ds.zip ks, kf p.1 = some p.2
  | [], ks, h, p, hp => by simp at hp
  | d :: ds, ks, h, p, hp => by
    obtain ⟨k, h1, h⟩ := Option.bind_eq_some_iff.mp h
    obtain ⟨ks', h2, rfl⟩ := Option.map_eq_some_iff.mp h
    rw [List.zip_cons_cons, List.mem_cons] at hp
    rcases hp with rfl | hp
    · exact h1
    · exact keysBy_mem h2 p hp
def sortDK (ds ks : List PyData) : List PyData := ((ds.zip ks).mergeSort (PySem.W.dataLe false (fun b : PyData × PyData => b.2))).map (·.1)
def rSortKy (K : PySem.W.Frag) (f : Addr) (kf : PyData → Option PyData) : List V → List V → Hp → VK → Prop := fun vs zs H Q => ∃ (a : Addr) (xs : List V) (ds ks : List PyData), vs = [V.ref a] ∧ zs = [V.ref f] ∧ SqL K H a xs ∧ DvAll K H xs ds ∧ noLs ds = true ∧ keysBy kf ds = some ks ∧ sortB ks = true ∧
  ∀ p : Addr, H p = none → Q (.ref p) (upd H p (.lst (((xs.zip (ds.zip ks)).mergeSort (PySem.W.dataLe false (fun b : V × PyData × PyData => b.2.2))).map (·.1))))
theorem noLs_mem : ∀ {ds : List PyData}, noLs ds = true → ∀ d ∈ ds, noL d = true
  | [], _, d, h => by simp at h
  | d' :: ds, hn, d, h => by
    have hn : noL d' = true ∧ noLs ds = true := by simpa [noLs] using hn
    rcases List.mem_cons.mp h with rfl | h
    · exact hn.1
    · exact noLs_mem hn.2 d h
theorem each3 : ∀ {xs : List V} {us : List Value} {ys : List (PyData × PyData)}, Paired RelV xs us → xs.length = ys.length → PySem.W.EachIs (fun (u : Value) (b : V × PyData × PyData) => RelV b.1 u) us (xs.zip ys)
  | _, _, [], .nil, _ => .nil
  | _, _, d :: ds, .cons h1 h2, hl => by
    rw [List.zip_cons_cons]
    exact .cons h1 (each3 h2 (by simpa using hl))
theorem vals3 : ∀ {us : List Value} {bs : List (V × PyData × PyData)}, PySem.W.EachIs (fun (u : Value) (b : V × PyData × PyData) => RelV b.1 u) us bs → Vals (bs.map (·.1)) us
  | _, _, .nil => .nil
  | _, _, .cons h1 h2 => .cons h1 (vals3 h2)
theorem zip3_mem : ∀ {xs : List V} {ds ks : List PyData}, DvAll K H xs ds → ds.length = ks.length → ∀ b ∈ xs.zip (ds.zip ks), Dv K H b.1 b.2.1 ∧ b.2 ∈ ds.zip ks ∧ b.2.1 ∈ ds
  | _, _, [], .nil, _, b, hb => by simp at hb
  | _, _, k :: ks, .cons h1 h2, hl, b, hb => by
    rw [List.zip_cons_cons, List.zip_cons_cons, List.mem_cons] at hb
    rcases hb with rfl | hb
    · exact ⟨h1, by rw [List.zip_cons_cons]; exact List.mem_cons_self, List.mem_cons_self⟩
    · obtain ⟨q1, q2, q3⟩ := zip3_mem h2 (by simpa using hl) b hb
      exact ⟨q1, by rw [List.zip_cons_cons]; exact List.mem_cons_of_mem _ q2, List.mem_cons_of_mem _ q3⟩
theorem cr_sortKy {name qual x : Str} {params : Arguments} {scope : Scope} {f : Addr} {fd : FuncData} {e : Expr} {p : Pos} {kf : PyData → Option PyData} {k : Nat}
    (F : FunD X.K name qual params [.Return (some e) p] scope [] [] f fd) (S : FnScope [x] [x] scope) (hx : KX X.prog X.w fd x e kf) (hb : ∀ (u kV doc pm : Value) (an : Option Addr) (cdv ct : Value), bindArgs (PySem.W.fnOf name qual params [.Return (some e) p] scope .none kV doc pm an cdv ct) ⟨[u], []⟩ = pure [(x, u)])
    (hc : ∀ y ∈ scope.names, y.2 ≠ .cell) (hr : Room k X.A) : CallRK X (.builtin "sorted") [Str.ofString "key"] (rSortKy X.K f kf) := by
  intro pins s σ H vs zs us ws Q I r rz h
  obtain ⟨a, xs, ds, ks, rfl, rfl, hs, hd, hn, hk, hsb, q⟩ := h
  obtain rfl := Vals.ref1 r
  obtain rfl := Vals.ref1 rz
  obtain ⟨its, rv, hl, hz⟩ := I.list hs
  obtain ⟨b1, b2, b3, b4⟩ := sort_of hsb
  have l1 := hd.len
  have l2 := keysBy_len hk
  have em : (xs.zip (ds.zip ks)).map (fun b : V × PyData × PyData => b.2.2) = ks := by
    rw [show (fun b : V × PyData × PyData => b.2.2) = (fun q : PyData × PyData => q.2) ∘ (fun b : V × PyData × PyData => b.2) from rfl, ← List.map_map, List.map_snd_zip (by rw [List.length_zip]; omega), List.map_snd_zip (by omega)]
  have kin : ∀ h : Heap, (∀ b o, s.heap.get? b = some o → h.get? b = some o) → X.K.In h := fun h kp => I.kIn.keeps kp
  have lim : ∀ h : Heap, (∀ b o, s.heap.get? b = some o → h.get? b = some o) → h.NoLimit := fun h kp => (I.env0.mod.nolimit.keeps fun b o e => (I.env0.bs b o e).1).keeps kp
  refine PySem.W.sorted_key_data (b := false) (bs := xs.zip (ds.zip ks)) (R := fun (u : Value) (b : V × PyData × PyData) => RelV b.1 u) (fun b : V × PyData × PyData => b.2.2) hl.isList (each3 rv (by rw [List.length_zip]; omega)) (by rw [em]; exact b1) (by rw [em]; exact b2) ?_ (fun b hb' => ?_) (PyProof.Rows.ksk_s1 _ _) (fun _ => PyProof.Rows.ksk_l1 _ _) (fun _ => PyProof.Rows.ksk_t1 _ _)
    (fun v b hR hb' h tk kp => ?_) fun out c h' tk kp hf hD hlen eo => ?_
  · rw [List.length_zip]
    exact Nat.le_trans (Nat.min_le_left _ _) hz
  · have : b.2.2 ∈ ks := by
      rw [← em]
      exact List.mem_map_of_mem hb'
    have := (b3 _ this).2
    have := hr.units
    omega
  · obtain ⟨z1, z2, z3⟩ := zip3_mem hd l2.symm b hb'
    have I2 : Inv X pins σ H { s with heap := h, toks := tk } := I.kept kp
    exact key_call F S hx (hb v) hc (kin h kp) (lim h kp) hr.depth (reads0 I2 z1 (noLs_mem hn _ z3) v hR) (keysBy_mem hk _ z2)
  · have hvals := vals3 eo
    have hl2 : (((xs.zip (ds.zip ks)).mergeSort (PySem.W.dataLe false (fun b : V × PyData × PyData => b.2.2))).map (·.1)).length ≤ sizeLine := by
      rw [List.length_map, List.length_mergeSort, List.length_zip]
      exact Nat.le_trans (Nat.min_le_left _ _) hz
    exact ⟨.ref _, upd H (s.heap.objs.size + 1) (.lst _), I.laid (t' := tk) kp (Nat.le_succ _) (show ObjOk X.prog X.w _ _ _ (.lst _) from ⟨hl2, out, c, hvals, hD⟩), rfl, q _ (I.hok.fresh (Nat.le_succ _))⟩
def gSortKy (kf : PyData → Option PyData) (d : PyData) : Option Res := match d with
  | .list ds => (keysBy kf ds).bind fun ks => if noLs ds = true ∧ sortB ks = true then some (.new (.lst (sortDK ds ks))) else none
  | _ => none
theorem sortDK_dv {xs : List V} {ds ks : List PyData} (h : DvAll K Hk xs ds) (hl : ds.length = ks.length) : DvAll K Hk (((xs.zip (ds.zip ks)).mergeSort (PySem.W.dataLe false (fun b : V × PyData × PyData => b.2.2))).map (·.1)) (sortDK ds ks) := by
  have e2 : (xs.zip (ds.zip ks)).map (fun b : V × PyData × PyData => b.2) = ds.zip ks := List.map_snd_zip (by rw [List.length_zip, h.len]; omega)
  have := List.map_mergeSort (r := PySem.W.dataLe false (fun b : V × PyData × PyData => b.2.2)) (s := PySem.W.dataLe false (fun b : PyData × PyData => b.2)) (f := fun b : V × PyData × PyData => b.2) (l := xs.zip (ds.zip ks)) (fun a _ b _ => rfl)
  rw [e2] at this
  have e : sortDK ds ks = ((xs.zip (ds.zip ks)).mergeSort (PySem.W.dataLe false (fun b : V × PyData × PyData => b.2.2))).map (fun b : V × PyData × PyData => b.2.1) := by
    unfold sortDK
    rw [← this, List.map_map]
    rfl
  rw [e]
  have hm : ∀ b ∈ (xs.zip (ds.zip ks)).mergeSort (PySem.W.dataLe false (fun b : V × PyData × PyData => b.2.2)), Dv K Hk b.1 b.2.1 := fun b hb => (zip3_mem h hl b (List.mem_mergeSort.mp hb)).1
  generalize (xs.zip (ds.zip ks)).mergeSort (PySem.W.dataLe false (fun b : V × PyData × PyData => b.2.2)) = l at hm
  induction l with
  | nil => exact .nil
  | cons b l ih => exact .cons (hm b List.mem_cons_self) (ih fun c hc => hm c (List.mem_cons_of_mem _ hc))
theorem sortKy_run {f : Addr} {kf : PyData → Option PyData} {m : ME} {Q : VK} (h : tE K (mUn (gSortKy kf) m) σ H Q) : tCKw (rSortKy K f kf) (tCons (tE K m) tNil) (tCons (tC (.ref f)) tNil) σ H Q := by
  obtain ⟨B, env, Hk, res, env', R, hm, k⟩ := h
  obtain ⟨⟨r, e1⟩, h1, hm⟩ := Option.bind_eq_some_iff.mp hm
  obtain ⟨d, h2, hm⟩ := Option.bind_eq_some_iff.mp hm
  obtain ⟨res', h3, hm⟩ := Option.map_eq_some_iff.mp hm
  cases hm
  refine ⟨B, env, Hk, r, e1, R, h1, fun v Hk1 H1 R1 s1 o1 => ?_⟩
  obtain ⟨Hk1', R1', s1', o1'⟩ := R1.stab o1
  have vw := R1'.view o1' h2
  show rSortKy K f kf [v] [V.ref f] H1 Q
  unfold gSortKy at h3
  split at h3
  · obtain ⟨ks, h4, h3⟩ := Option.bind_eq_some_iff.mp h3
    split at h3
    · rename_i hz
      cases h3
      obtain ⟨a, ws, rfl, g1, g2⟩ := vw.list R1'.ex
      refine ⟨a, ws, _, ks, rfl, rfl, SqL.of g1, dvAll_mono R1'.ex _ _ g2, hz.1, h4, hz.2, fun p hp => ?_⟩
      obtain ⟨Hk3, R3, s3, o3⟩ := R1'.out (r := .new (.lst (sortDK _ ks))) ⟨p, _, rfl, hp, rfl, sortDK_dv g2 (keysBy_len h4).symm⟩
      exact k _ Hk3 _ R3 ((s1.trans s1').trans s3) o3
    · cases h3
  · cases h3
theorem ve_sortKy {name qual x y : Str} {params : Arguments} {scope : Scope} {f : Addr} {fd : FuncData} {e a : Expr} {p p1 p2 p3 p4 : Pos} {kf : PyData → Option PyData} {k : Nat} {m : ME}
    (F : FunD X.K name qual params [.Return (some e) p] scope [] [] f fd) (S : FnScope [x] [x] scope) (hx : KX X.prog X.w fd x e kf) (hr : Room k X.A) (hms : X.mg "sorted" = none) (hmg : X.mg y = some (.ref f)) (ha : VE X a m)
    (hb : ∀ (u kV doc pm : Value) (an : Option Addr) (cdv ct : Value), bindArgs (PySem.W.fnOf name qual params [.Return (some e) p] scope .none kV doc pm an cdv ct) ⟨[u], []⟩ = pure [(x, u)] := by intros; rfl)
    (hc : ∀ y ∈ scope.names, y.2 ≠ .cell := by decide +kernel) (hg : Gl X "sorted" := by rfl) (hgy : Gl X y := by rfl) (hdb : (y == ("__debug__" : Str)) = false := by decide) (hs : starEach [a] X.env = (false, eval a X.env) :: starEach [] X.env := by rfl) (hbt : bootBuiltins "sorted" = some (.builtin "sorted") := by decide +kernel)
    (he : backTo p2 (starEach [a] X.env) = (false, eval a X.env) :: backTo p2 (starEach [] X.env) := by rfl) (hpl : (backTo p2 (starEach [a] X.env)).any (·.1) = false := by rfl) :
    VE X (.Call (.Name "sorted" p1) [a] [⟨some "key", .Name y p3, p4⟩] p2) (mUn (gSortKy kf) m) :=
  (pe_callBK (cr_sortKy F S hx hb hc hr) hg hms hbt (pa_cons ha pa_nil hs) (pk_cons (pe_glob (v := .ref f) hgy hmg rfl hdb) pk_nil) (by decide) (by decide) he hpl).imp fun _ _ _ => sortKy_run
end
end Cm
namespace Cm
open PySem L2
/-! ### dicts as plain lists of pairs -/
section
variable {α β : Type}
abbrev eP (ek : α → PyData) (ev : β → PyData) : α × β → PyData × PyData := fun p => (ek p.1, ev p.2)
abbrev eM (ek : α → PyData) (ev : β → PyData) : List (α × β) → PyData := fun l => .dict (l.map (eP ek ev))
def look [DecidableEq α] (l : List (α × β)) (k : α) : Option β := (l.find? fun p => decide (p.1 = k)).map (·.2)
def putL [DecidableEq α] (l : List (α × β)) (k : α) (v : β) : List (α × β) := if (l.any fun p => decide (p.1 = k)) = true then l.map (fun p => if p.1 = k then (p.1, v) else p) else l ++ [(k, v)]
def dropL [DecidableEq α] (l : List (α × β)) (k : α) : List (α × β) := l.filter fun p => decide (p.1 ≠ k)
def mergeL [DecidableEq α] (l more : List (α × β)) : List (α × β) := more.foldl (fun acc p => putL acc p.1 p.2) l
structure KeyE (e : α → PyData) (kk : α → Key) : Prop where
  key : ∀ a, keyOf (e a) = some (kk a)
  inj : ∀ a b, kk a = kk b → a = b
  kd : ∀ a, keyD (kk a) = e a
theorem keyE_int : KeyE eI Sum.inl := ⟨fun _ => rfl, fun _ _ h => Sum.inl.inj h, fun _ => rfl⟩
theorem keyE_str : KeyE eS Sum.inr := ⟨fun _ => rfl, fun _ _ h => Sum.inr.inj h, fun _ => rfl⟩
variable [DecidableEq α] {ek : α → PyData} {ev : β → PyData} {kk : α → Key}
theorem key_dec (E : KeyE ek kk) (a b : α) : decide (keyOf (ek a) = some (kk b)) = decide (a = b) := by
  rw [E.key]
  by_cases h : a = b
  · simp [h]
  · have : ¬ kk a = kk b := fun z => h (E.inj _ _ z)
    simp [h, this]
theorem key_iff (E : KeyE ek kk) (a b : α) : (keyOf (ek a) = some (kk b)) = (a = b) := by
  rw [E.key]
  exact propext ⟨fun z => E.inj _ _ (Option.some.inj z), fun z => by rw [z]⟩
theorem dGet_map (E : KeyE ek kk) (k : α) : ∀ l : List (α × β), dGet (l.map (eP ek ev)) (kk k) = (look l k).map ev
  | [] => rfl
  | p :: l => by
    have ih := dGet_map E k l
    unfold dGet look at ih ⊢
    rw [List.map_cons, List.find?_cons, List.find?_cons, key_dec E p.1 k]
    by_cases h : p.1 = k
    · simp [h]
    · simp only [h, decide_false]
      exact ih
theorem dPut_map (E : KeyE ek kk) (k : α) (v : β) (l : List (α × β)) : dPut (l.map (eP ek ev)) (kk k) (ev v) = (putL l k v).map (eP ek ev) := by
  unfold dPut putL
  have h1 : ((l.map (eP ek ev)).any fun p => decide (keyOf p.1 = some (kk k))) = l.any fun p => decide (p.1 = k) := by
    rw [List.any_map]
    congr 1
    funext p
    exact key_dec E p.1 k
  rw [h1]
  split
  · rw [List.map_map, List.map_map]
    congr 1
    funext p
    simp only [Function.comp, key_iff E]
    split <;> rfl
  · rw [List.map_append, E.kd]
    rfl
theorem dDrop_map (E : KeyE ek kk) (k : α) (l : List (α × β)) : dDrop (l.map (eP ek ev)) (kk k) = (dropL l k).map (eP ek ev) := by
  unfold dDrop dropL
  rw [List.filter_map]
  congr 1
  congr 1
  funext p
  simp only [Function.comp, ne_eq, key_iff E]
theorem dMerge_map (E : KeyE ek kk) : ∀ (more l : List (α × β)), dMerge (l.map (eP ek ev)) (more.map (eP ek ev)) = some ((mergeL l more).map (eP ek ev))
  | [], l => rfl
  | p :: more, l => by
    show (keyOf (ek p.1)).bind _ = _
    rw [E.key, Option.bind_some]
    show dMerge (dPut (l.map (eP ek ev)) (kk p.1) (ev p.2)) (more.map (eP ek ev)) = _
    rw [dPut_map E, dMerge_map E more]
    rfl
theorem x_dget (E : KeyE ek kk) {l : List (α × β)} {k : α} : gDGet (.dict (l.map (eP ek ev))) (ek k) = (look l k).map (fun z => .dat (ev z)) := by
  simp only [gDGet, E.key, Option.bind_some, dGet_map E]
  cases look l k <;> rfl
theorem x_din0 (E : KeyE ek kk) {l : List (α × β)} {k : α} : gDIn false (ek k) (.dict (l.map (eP ek ev))) = some (.dat (.bool (look l k).isSome)) := by
  simp only [gDIn, E.key, Option.map_some, dGet_map E, Option.isSome_map, Bool.false_xor]
theorem x_din1 (E : KeyE ek kk) {l : List (α × β)} {k : α} : gDIn true (ek k) (.dict (l.map (eP ek ev))) = some (.dat (.bool (!(look l k).isSome))) := by
  simp only [gDIn, E.key, Option.map_some, dGet_map E, Option.isSome_map, Bool.true_xor]
end
/-- a text among things of any make, as a key -/
def pKeyS : PyData → Option Str
  | .str x => some x
  | _ => none
def pDGetS {β : Type} (l : List (Str × β)) (d : PyData) : Option β := (pKeyS d).bind fun x => look l x
def pDInS {β : Type} (neg : Bool) (d : PyData) (l : List (Str × β)) : Option Bool := match d with
  | .str x => some (neg ^^ (look l x).isSome)
  | .int _ => some (neg ^^ false)
  | _ => none
theorem dGet_no {β : Type} {ev : β → PyData} (i : Int) : ∀ l : List (Str × β), dGet (l.map (eP eS ev)) (.inl i) = none
  | [] => rfl
  | p :: l => by
    have ih := dGet_no (ev := ev) i l
    unfold dGet at ih ⊢
    rw [List.map_cons, List.find?_cons]
    simpa [keyOf] using ih
theorem x_dgetSD {β : Type} {ev : β → PyData} {l : List (Str × β)} {d : PyData} : gDGet (.dict (l.map (eP eS ev))) d = (pDGetS l d).map (fun z => .dat (ev z)) := by
  cases d with
  | str x => exact x_dget keyE_str
  | int i => simp [gDGet, keyOf, dGet_no, pDGetS, pKeyS]
  | _ => rfl
theorem x_dinSD {β : Type} {ev : β → PyData} {neg : Bool} {l : List (Str × β)} {d : PyData} : gDIn neg d (.dict (l.map (eP eS ev))) = (pDInS neg d l).map (fun z => .dat (.bool z)) := by
  cases d with
  | str x => simp [gDIn, keyOf, pDInS, dGet_map keyE_str]
  | int i => simp [gDIn, keyOf, dGet_no, pDInS]
  | _ => rfl
/-! things of any make as keys and values -/
theorem eP_eD : (eP eD eD) = (fun p : PyData × PyData => p) := rfl
theorem map_ePD {l : List (PyData × PyData)} : l.map (eP eD eD) = l := by rw [eP_eD]; exact List.map_id' l
section
variable {τ : Type} {ev : τ → PyData}
def getKD (es : List (PyData × τ)) (k : Key) : Option τ := (es.find? fun p => decide (keyOf p.1 = some k)).map (·.2)
def putKD (es : List (PyData × τ)) (k : Key) (v : τ) : List (PyData × τ) := if (es.any fun p => decide (keyOf p.1 = some k)) = true then es.map (fun p => if keyOf p.1 = some k then (p.1, v) else p) else es ++ [(keyD k, v)]
def dropKD (es : List (PyData × τ)) (k : Key) : List (PyData × τ) := es.filter fun p => decide (keyOf p.1 ≠ some k)
theorem dGet_mapR (k : Key) : ∀ l : List (PyData × τ), dGet (l.map (eP eD ev)) k = (getKD l k).map ev
  | [] => rfl
  | p :: l => by
    have ih := dGet_mapR k l
    unfold dGet getKD at ih ⊢
    rw [List.map_cons, List.find?_cons, List.find?_cons]
    by_cases h : keyOf p.1 = some k
    · simp [h]
    · simp only [eD, h, decide_false]
      exact ih
theorem dPut_mapR (k : Key) (v : τ) (l : List (PyData × τ)) : dPut (l.map (eP eD ev)) k (ev v) = (putKD l k v).map (eP eD ev) := by
  unfold dPut putKD
  have h1 : ((l.map (eP eD ev)).any fun p => decide (keyOf p.1 = some k)) = l.any fun p => decide (keyOf p.1 = some k) := by
    rw [List.any_map]
    rfl
  rw [h1]
  split
  · rw [List.map_map, List.map_map]
    congr 1
    funext p
    simp only [Function.comp]
    split <;> rfl
  · rw [List.map_append]
    rfl
theorem dDrop_mapR (k : Key) (l : List (PyData × τ)) : dDrop (l.map (eP eD ev)) k = (dropKD l k).map (eP eD ev) := by
  unfold dDrop dropKD
  rw [List.filter_map]
  rfl
def pDGetR (es : List (PyData × τ)) (d : PyData) : Option τ := (keyOf d).bind fun k => getKD es k
def pDInR (neg : Bool) (d : PyData) (es : List (PyData × τ)) : Option Bool := (keyOf d).map fun k => neg ^^ (getKD es k).isSome
theorem x_dgetR {es : List (PyData × τ)} {d : PyData} : gDGet (.dict (es.map (eP eD ev))) d = (pDGetR es d).map (fun z => .dat (ev z)) := by
  simp only [gDGet, pDGetR]
  cases keyOf d with
  | none => rfl
  | some k =>
    simp only [Option.bind_some, dGet_mapR]
    cases getKD es k <;> rfl
theorem x_dinR {neg : Bool} {es : List (PyData × τ)} {d : PyData} : gDIn neg d (.dict (es.map (eP eD ev))) = (pDInR neg d es).map (fun z => .dat (.bool z)) := by
  simp only [gDIn, pDInR, Option.map_map, dGet_mapR, Option.isSome_map]
  rfl
end
/-! ### steps -/
section
variable {β γ δ : Type} {env e e1 e2 : Sl} {R : Option β} {i : Nat} {m mo mk mx : ME}
section
variable {K : Res → Sl → Option β}
theorem c_frzND {es : List (PyData × PyData)} (k : K (.dat (.dict es)) e = R) : bnd (frz (.new (.dct es), e)) K = R := k
theorem c_frzOD {es : List (PyData × PyData)} (h : e[i]? = some (.own (.dct es))) (hs : e.set i (.val (.dict es)) = e2) (k : K (.dat (.dict es)) e2 = R) : bnd (frz (.slt i, e)) K = R := by
  subst hs; simp only [frz, h]; exact k
def dget1K (r1 r2 : Res) (e : Sl) (K : Res → Sl → Option β) : Option β := (rdv e (stab r1)).bind fun d => (rdv e (stab r2)).bind fun k => match d with
  | .dict es => (keyOf k).bind fun k => K (.dat ((dGet es k).getD .none)) e
  | _ => none
theorem c_dget1 (k : bnd (mo env) (fun r1 e1 => (rdv e1 (stab r1)).bind fun d0 => match d0 with
    | .dict _ => bnd (mk e1) fun r2 e2 => dget1K r1 r2 e2 K
    | _ => none) = R) : bnd (mDGet1 mo mk env) K = R := by
  rw [← k]; unfold mDGet1 bnd
  cases mo env with
  | none => rfl
  | some p =>
    simp only [Option.bind_some]
    cases rdv p.2 (stab p.1) with
    | none => rfl
    | some d0 =>
      simp only [Option.bind_some]
      cases d0 with
      | dict _ =>
        simp only
        cases mk p.2 with
        | none => rfl
        | some q =>
          simp only [Option.bind_some, dget1K]
          cases rdv q.2 (stab p.1) with
          | none => rfl
          | some d =>
            simp only [Option.bind_some]
            cases rdv q.2 (stab q.1) with
            | none => rfl
            | some kd =>
              simp only [Option.bind_some]
              cases d with
              | dict es => simp only; cases keyOf kd <;> rfl
              | _ => rfl
      | _ => rfl
theorem c_dget1A {r1 : Res} {es : List (PyData × PyData)} (h : rdv e (stab r1) = some (.dict es)) (k : bnd (mk e) (fun r2 e2 => dget1K r1 r2 e2 K) = R) : ((rdv e (stab r1)).bind fun d0 => match d0 with
    | .dict _ => bnd (mk e) fun r2 e2 => dget1K r1 r2 e2 K
    | _ => none) = R := by rw [h]; exact k
theorem c_dget1K {r1 r2 : Res} {es : List (PyData × PyData)} {dk : PyData} (h1 : rdv e (stab r1) = some (.dict es)) (h2 : rdv e (stab r2) = some dk) (k : ((keyOf dk).map fun k => (dGet es k).getD .none).bind (fun d => K (.dat d) e) = R) : dget1K r1 r2 e K = R := by
  unfold dget1K; rw [h1, h2, ← k]
  simp only [Option.bind_some]
  cases keyOf dk <;> rfl
def dget2K (r1 r2 : Res) (r3 : Res) (e : Sl) (K : Res → Sl → Option β) : Option β := match r3 with
  | .dat dx => (rdv e (stab r1)).bind fun d => (rdv e (stab r2)).bind fun k => match d with
    | .dict es => (keyOf k).bind fun k => K (.dat ((dGet es k).getD dx)) e
    | _ => none
  | _ => none
theorem c_dget2 (k : bnd (mo env) (fun r1 e1 => (rdv e1 (stab r1)).bind fun d0 => match d0 with
    | .dict _ => bnd (mk e1) fun r2 e2 => bnd (mFrz mx e2) fun r3 e3 => dget2K r1 r2 r3 e3 K
    | _ => none) = R) : bnd (mDGet2 mo mk mx env) K = R := by
  rw [← k]; unfold mDGet2 bnd
  cases mo env with
  | none => rfl
  | some p =>
    simp only [Option.bind_some]
    cases rdv p.2 (stab p.1) with
    | none => rfl
    | some d0 =>
      simp only [Option.bind_some]
      cases d0 with
      | dict _ =>
        simp only
        cases mk p.2 with
        | none => rfl
        | some q =>
          simp only [Option.bind_some]
          cases mFrz mx q.2 with
          | none => rfl
          | some t =>
            simp only [Option.bind_some, dget2K]
            cases t with
            | mk r3 e3 =>
              cases r3 with
              | dat dx =>
                simp only
                cases rdv e3 (stab p.1) with
                | none => rfl
                | some d =>
                  simp only [Option.bind_some]
                  cases rdv e3 (stab q.1) with
                  | none => rfl
                  | some kd =>
                    simp only [Option.bind_some]
                    cases d with
                    | dict es => simp only; cases keyOf kd <;> rfl
                    | _ => rfl
              | _ => rfl
      | _ => rfl
theorem c_dget2A {r1 : Res} {es : List (PyData × PyData)} (h : rdv e (stab r1) = some (.dict es)) (k : bnd (mk e) (fun r2 e2 => bnd (mFrz mx e2) fun r3 e3 => dget2K r1 r2 r3 e3 K) = R) : ((rdv e (stab r1)).bind fun d0 => match d0 with
    | .dict _ => bnd (mk e) fun r2 e2 => bnd (mFrz mx e2) fun r3 e3 => dget2K r1 r2 r3 e3 K
    | _ => none) = R := by rw [h]; exact k
theorem c_dget2K {r1 r2 : Res} {es : List (PyData × PyData)} {dk dx : PyData} (h1 : rdv e (stab r1) = some (.dict es)) (h2 : rdv e (stab r2) = some dk) (k : ((keyOf dk).map fun k => (dGet es k).getD dx).bind (fun d => K (.dat d) e) = R) : dget2K r1 r2 (.dat dx) e K = R := by
  unfold dget2K; simp only; rw [h1, h2, ← k]
  simp only [Option.bind_some]
  cases keyOf dk <;> rfl
end
/-! what get tells -/
theorem x_get1 {α τ : Type} [DecidableEq α] {ek : α → PyData} {ev : τ → PyData} {kk : α → Key} (E : KeyE ek kk) {l : List (α × τ)} {k : α} : ((keyOf (ek k)).map fun k => (dGet (l.map (eP ek ev)) k).getD .none) = some (eO ev (look l k)) := by
  rw [E.key]; simp only [Option.map_some, dGet_map E]
  cases look l k <;> rfl
theorem x_get2 {α τ : Type} [DecidableEq α] {ek : α → PyData} {ev : τ → PyData} {kk : α → Key} (E : KeyE ek kk) {l : List (α × τ)} {k : α} {x : τ} : ((keyOf (ek k)).map fun k => (dGet (l.map (eP ek ev)) k).getD (ev x)) = some (ev ((look l k).getD x)) := by
  rw [E.key]; simp only [Option.map_some, dGet_map E]
  cases look l k <;> rfl
theorem x_get2N {α τ : Type} [DecidableEq α] {ek : α → PyData} {ev : τ → PyData} {kk : α → Key} (E : KeyE ek kk) {l : List (α × τ)} {k : α} : ((keyOf (ek k)).map fun k => (dGet (l.map (eP ek ev)) k).getD .none) = some (eO ev (look l k)) := x_get1 E
def pGetR {τ : Type} (es : List (PyData × τ)) (d : PyData) (x : τ) : Option τ := (keyOf d).map fun k => (getKD es k).getD x
theorem x_getR {τ : Type} {ev : τ → PyData} {es : List (PyData × τ)} {d : PyData} {x : τ} : ((keyOf d).map fun k => (dGet (es.map (eP eD ev)) k).getD (ev x)) = (pGetR es d x).map (fun z => ev z) := by
  unfold pGetR
  cases keyOf d with
  | none => rfl
  | some k =>
    simp only [Option.map_some, dGet_mapR]
    cases getKD es k <;> rfl
def pGetRN {τ : Type} (es : List (PyData × τ)) (d : PyData) : Option (Option τ) := (keyOf d).map fun k => getKD es k
theorem x_getRN {τ : Type} {ev : τ → PyData} {es : List (PyData × τ)} {d : PyData} : ((keyOf d).map fun k => (dGet (es.map (eP eD ev)) k).getD .none) = (pGetRN es d).map (fun z => eO ev z) := by
  unfold pGetRN
  cases keyOf d with
  | none => rfl
  | some k =>
    simp only [Option.map_some, dGet_mapR]
    cases getKD es k <;> rfl
/-! {k: v, ..} -/
section
variable {K : Res → Sl → Option β} {l : List (ME × ME)}
def bndP (x : Option (List (PyData × PyData) × Sl)) (K : List (PyData × PyData) → Sl → Option β) : Option β := x.bind fun p => K p.1 p.2
def dispK (es : List (PyData × PyData)) (e : Sl) (K : Res → Sl → Option β) : Option β := if keysOk es = true ∧ es.length ≤ 15 then (dMerge [] es).bind fun es => K (.new (.dct es)) e else none
theorem c_disp (k : bndP (mPairs l env) (fun es e => dispK es e K) = R) : bnd (mDisp l env) K = R := by
  rw [← k]; unfold mDisp bnd bndP dispK
  cases mPairs l env with
  | none => rfl
  | some p =>
    simp only [Option.bind_some]
    split
    · cases dMerge [] p.1 <;> rfl
    · rfl
theorem c_pnil {K : List (PyData × PyData) → Sl → Option β} (k : K [] env = R) : bndP (mPairs [] env) K = R := k
def pairK (r1 r2 : Res) (l : List (ME × ME)) (e : Sl) (K : List (PyData × PyData) → Sl → Option β) : Option β := match r1, r2 with
  | .dat k, .dat d => bndP (mPairs l e) fun es e => K ((k, d) :: es) e
  | _, _ => none
theorem c_pcons {K : List (PyData × PyData) → Sl → Option β} {mk mv : ME} (k : bnd (mFrz mk env) (fun r1 e1 => bnd (mFrz mv e1) fun r2 e2 => pairK r1 r2 l e2 K) = R) : bndP (mPairs ((mk, mv) :: l) env) K = R := by
  rw [← k]; unfold bndP bnd
  simp only [mPairs]
  cases mFrz mk env with
  | none => rfl
  | some p =>
    simp only [Option.bind_some]
    cases mFrz mv p.2 with
    | none => rfl
    | some q =>
      simp only [Option.bind_some]
      cases p with
      | mk r1 e1 =>
        cases q with
        | mk r2 e2 =>
          cases r1 with
          | dat kd =>
            cases r2 with
            | dat d =>
              simp only [pairK, bndP]
              cases mPairs l e2 <;> rfl
            | _ => rfl
          | _ => cases r2 <;> rfl
theorem c_pconsK {K : List (PyData × PyData) → Sl → Option β} {kd d : PyData} (k : bndP (mPairs l e) (fun es e => K ((kd, d) :: es) e) = R) : pairK (.dat kd) (.dat d) l e K = R := k
theorem c_dispK {α τ : Type} [DecidableEq α] {ek : α → PyData} {ev : τ → PyData} {kk : α → Key} (E : KeyE ek kk) (ps : List (α × τ)) {es : List (PyData × PyData)} (h : es = ps.map (eP ek ev)) (h15 : ps.length ≤ 15) (k : K (.new (.dct ((mergeL [] ps).map (eP ek ev)))) e = R) : dispK es e K = R := by
  subst h
  unfold dispK
  have h1 : keysOk (ps.map (eP ek ev)) = true := by
    unfold keysOk
    rw [List.all_map, List.all_eq_true]
    intro p _
    simp [E.key]
  rw [if_pos ⟨h1, by rw [List.length_map]; exact h15⟩]
  have := dMerge_map (ev := ev) E ps []
  rw [List.map_nil] at this
  rw [this]
  exact k
theorem c_dnew (k : K (.new (.dct [])) env = R) : bnd (mDNew env) K = R := k
end
/-! d[k] = v -/
section
variable {K : Sl → Option β} {d : PyData}
def gputK (i : Nat) (d : PyData) (r : Res) (e : Sl) (K : Sl → Option β) : Option β := match r with
  | .dat dk => (keyOf dk).bind fun k => (dctAt e i).bind fun q => if q.2.length < 100000 then K (e.set i (q.1.put (.dct (dPut q.2 k d)))) else none
  | _ => none
theorem c_gput {q : Slot × List (PyData × PyData)} (h : dctAt e i = some q) (k : bnd (m e) (fun r e => gputK i d r e K) = R) : (mgPut i m d e).bind K = R := by
  rw [← k]; unfold mgPut bnd
  rw [h]
  simp only [Option.bind_some]
  cases m e with
  | none => rfl
  | some p =>
    simp only [Option.bind_some]
    cases p with
    | mk r e =>
      cases r with
      | dat dk =>
        simp only [gputK]
        cases keyOf dk with
        | none => rfl
        | some kk =>
          simp only [Option.bind_some]
          cases dctAt e i with
          | none => rfl
          | some q =>
            simp only [Option.bind_some]
            split <;> rfl
      | _ => rfl
def pPut {α τ : Type} [DecidableEq α] (l : List (α × τ)) (k : α) (v : τ) : Option (List (α × τ)) := if l.length < 100000 then some (putL l k v) else none
theorem c_gputP {α τ : Type} [DecidableEq α] {ek : α → PyData} {ev : τ → PyData} {kk : α → Key} {k : List (α × τ) → Option γ} {h : γ → Option β} (E : KeyE ek kk) (l : List (α × τ)) (x : α) (v : τ) {s : Slot} (Ev : List (α × τ) → Sl) (h1 : dctAt e i = some (s, l.map (eP ek ev))) (hE : ∀ l', e.set i (s.put (.dct (l'.map (eP ek ev)))) = Ev l') (p : ∀ l', K (Ev l') = (k l').bind h) : gputK i (ev v) (.dat (ek x)) e K = ((pPut l x v).bind k).bind h := by
  unfold gputK pPut
  simp only [E.key, h1, Option.bind_some, List.length_map]
  split
  · rw [dPut_map E, hE]
    exact p _
  · rfl
def pPutR {τ : Type} (es : List (PyData × τ)) (d : PyData) (v : τ) : Option (List (PyData × τ)) := (keyOf d).bind fun k => if es.length < 100000 then some (putKD es k v) else none
theorem c_gputR {τ : Type} {ev : τ → PyData} {k : List (PyData × τ) → Option γ} {h : γ → Option β} (es : List (PyData × τ)) (x : PyData) (v : τ) {s : Slot} (Ev : List (PyData × τ) → Sl) (h1 : dctAt e i = some (s, es.map (eP eD ev))) (hE : ∀ l', e.set i (s.put (.dct (l'.map (eP eD ev)))) = Ev l') (p : ∀ l', K (Ev l') = (k l').bind h) : gputK i (ev v) (.dat x) e K = ((pPutR es x v).bind k).bind h := by
  unfold gputK pPutR
  simp only [h1]
  cases keyOf x with
  | none => rfl
  | some kk =>
    simp only [Option.bind_some, List.length_map]
    split
    · rw [dPut_mapR, hE]
      exact p _
    · rfl
end
/-! names that take a dict -/
section
variable {K : Fl → Sl → Option β} {j : Nat}
theorem c_setNLD {α τ : Type} {k : List (α × τ) → Option γ} {h : γ → Option β} (ek : α → PyData) (ev : τ → PyData) (v : List (α × τ)) (Ev : List (α × τ) → Sl) (hs : ∀ x, e.set i (.own (.dct (x.map (eP ek ev)))) = Ev x) (p : ∀ x, K .nx (Ev x) = (k x).bind h) : setK i (.new (.dct (v.map (eP ek ev)))) e K = ((some v).bind k).bind h := by
  show K .nx (e.set i (.own (.dct (v.map (eP ek ev))))) = _
  rw [hs]; exact p v
theorem c_setOD {es : List (PyData × PyData)} (h : e[j]? = some (.own (.dct es))) (hs : e.set j (.val (.dict es)) = e1) (hs2 : e1.set i (.val (.dict es)) = e2) (k : K .nx e2 = R) : setK i (.slt j) e K = R := by
  subst hs hs2; unfold setK putRes; simp only [frz, h]; exact k
end
/-! walks -/
section
variable {K : List PyData → Sl → Option β}
def lkK (f : List (PyData × PyData) → List PyData) (r : Res) (e : Sl) (K : List PyData → Sl → Option β) : Option β := (lk (r, e)).bind fun q => K (f q.1) q.2
theorem c_itK (k : bnd (m env) (fun r e => lkK (fun es => es.map (·.1)) r e K) = R) : bnd (mItK m env) K = R := by
  rw [← k]; unfold mItK bnd lkK
  cases m env with
  | none => rfl
  | some p => simp only [Option.bind_some]; cases lk p <;> rfl
theorem c_itV (k : bnd (m env) (fun r e => lkK (fun es => es.map (·.2)) r e K) = R) : bnd (mItV m env) K = R := by
  rw [← k]; unfold mItV bnd lkK
  cases m env with
  | none => rfl
  | some p => simp only [Option.bind_some]; cases lk p <;> rfl
theorem c_itI (k : bnd (m env) (fun r e => lkK (fun es => es.map fun p => .tuple [p.1, p.2]) r e K) = R) : bnd (mItI m env) K = R := by
  rw [← k]; unfold mItI bnd lkK
  cases m env with
  | none => rfl
  | some p => simp only [Option.bind_some]; cases lk p <;> rfl
theorem c_lkO {f : List (PyData × PyData) → List PyData} {es : List (PyData × PyData)} {l : List PyData} (h : e[i]? = some (.own (.dct es))) (hs : e.set i (.val (.dict es)) = e2) (hl : f es = l) (k : K l e2 = R) : lkK f (.slt i) e K = R := by
  subst hs hl; unfold lkK lk; simp only [h]; exact k
theorem c_lkN {f : List (PyData × PyData) → List PyData} {es : List (PyData × PyData)} {l : List PyData} (hl : f es = l) (k : K l e = R) : lkK f (.new (.dct es)) e K = R := by
  subst hl; exact k
end
theorem mapK {α τ : Type} {ek : α → PyData} {ev : τ → PyData} {l : List (α × τ)} : (l.map (eP ek ev)).map (·.1) = (l.map (·.1)).map ek := by simp
theorem mapV {α τ : Type} {ek : α → PyData} {ev : τ → PyData} {l : List (α × τ)} : (l.map (eP ek ev)).map (·.2) = (l.map (·.2)).map ev := by simp
theorem mapI {α τ : Type} {ek : α → PyData} {ev : τ → PyData} {l : List (α × τ)} : (l.map (eP ek ev)).map (fun p => PyData.tuple [p.1, p.2]) = l.map (eT2 ek ev) := by simp [Function.comp_def]
/-! sorted -/
section
variable {α τ : Type}
def pSort (e : α → PyData) (l : List α) : Option (List α) := if sortB (l.map e) = true then some (l.mergeSort (PySem.W.dataLe false e)) else none
theorem sortD_map (e : α → PyData) (l : List α) : sortD (l.map e) = (l.mergeSort (PySem.W.dataLe false e)).map e := by
  unfold sortD
  exact (List.map_mergeSort (r := PySem.W.dataLe false e) (s := PySem.W.dataLe false id) (f := e) (l := l) (fun a _ b _ => rfl)).symm
theorem x_sortX {e : α → PyData} {l : List α} : gSortX [.list (l.map e)] = (pSort e l).map (fun z => .new (.lst (z.map e))) := by
  show (if sortB (l.map e) = true then some (Res.new (.lst (sortD (l.map e)))) else none) = _
  unfold pSort
  split
  · rw [sortD_map]
    rfl
  · rfl
theorem x_sortKs {ek : α → PyData} {ev : τ → PyData} {l : List (α × τ)} : gSortKs [.dict (l.map (eP ek ev))] = (pSort ek (l.map (·.1))).map (fun z => .new (.lst (z.map ek))) := by
  show (if sortB ((l.map (eP ek ev)).map (·.1)) = true then some (Res.new (.lst (sortD ((l.map (eP ek ev)).map (·.1))))) else none) = _
  unfold pSort
  rw [mapK]
  split
  · rw [sortD_map]
    rfl
  · rfl
def pSortKy (e : α → PyData) (kf : PyData → Option PyData) (l : List α) : Option (List α) := (keysBy kf (l.map e)).bind fun ks => if noLs (l.map e) = true ∧ sortB ks = true then some (((l.zip ks).mergeSort (PySem.W.dataLe false (fun b : α × PyData => b.2))).map (·.1)) else none
theorem x_sortKy {e : α → PyData} {kf : PyData → Option PyData} {l : List α} : gSortKy kf (.list (l.map e)) = (pSortKy e kf l).map (fun z => .new (.lst (z.map e))) := by
  unfold gSortKy pSortKy
  simp only
  cases hk : keysBy kf (l.map e) with
  | none => rfl
  | some ks =>
    simp only [Option.bind_some]
    split
    · simp only [Option.map_some]
      congr 3
      unfold sortDK
      have hz : (l.map e).zip ks = (l.zip ks).map fun p => (e p.1, p.2) := by
        rw [List.zip_map_left]
        rfl
      have := List.map_mergeSort (r := PySem.W.dataLe false (fun b : α × PyData => b.2)) (s := PySem.W.dataLe false (fun b : PyData × PyData => b.2)) (f := fun p : α × PyData => (e p.1, p.2)) (l := l.zip ks) (fun a _ b _ => rfl)
      rw [hz, ← this, List.map_map, List.map_map]
      rfl
    · rfl
end
section
variable {K : Res → Sl → Option β}
def sIK (f : List (PyData × PyData) → List PyData) (r : Res) (e : Sl) (K : Res → Sl → Option β) : Option β := (dctOf (r, e)).bind fun es => (if sortB (f es) = true then some (Res.new (.lst (sortD (f es)))) else none).bind fun r => K r e
theorem c_sortIs (k : bnd (m env) (fun r e => sIK (fun es => es.map fun p => .tuple [p.1, p.2]) r e K) = R) : bnd (mSortIs m env) K = R := by
  rw [← k]; unfold mSortIs bnd sIK
  cases m env with
  | none => rfl
  | some p =>
    simp only [Option.bind_some]
    cases dctOf p with
    | none => rfl
    | some es => simp only [Option.bind_some]; split <;> rfl
theorem c_sortVs (k : bnd (m env) (fun r e => sIK (fun es => es.map (·.2)) r e K) = R) : bnd (mSortVs m env) K = R := by
  rw [← k]; unfold mSortVs bnd sIK
  cases m env with
  | none => rfl
  | some p =>
    simp only [Option.bind_some]
    cases dctOf p with
    | none => rfl
    | some es => simp only [Option.bind_some]; split <;> rfl
theorem c_sIK {α : Type} {f : List (PyData × PyData) → List PyData} {r : Res} {es : List (PyData × PyData)} {ec : α → PyData} (l : List α) {k : List α → Option γ} {h : γ → Option β} (h1 : dctOf (r, e) = some es) (hl : f es = l.map ec) (p : ∀ z : List α, K (.new (.lst (z.map ec))) e = (k z).bind h) : sIK f r e K = ((pSort ec l).bind k).bind h := by
  unfold sIK pSort
  rw [h1]
  simp only [Option.bind_some, hl]
  split
  · rw [sortD_map]
    exact p _
  · rfl
end
end
/-! dict(pairs) -/
def gDictL {α τ : Type} [DecidableEq α] (l : List (α × τ)) : List (α × τ) := mergeL [] l
theorem prsD_map {α τ : Type} {ek : α → PyData} {ev : τ → PyData} : ∀ l : List (α × τ), prsD (l.map (eT2 ek ev)) = some (l.map (eP ek ev))
  | [] => rfl
  | p :: l => by
    show (prsD (l.map (eT2 ek ev))).map _ = _
    rw [prsD_map l]
    rfl
theorem x_dict {α τ : Type} [DecidableEq α] {ek : α → PyData} {ev : τ → PyData} {kk : α → Key} (E : KeyE ek kk) {l : List (α × τ)} : gDict [.list (l.map (eT2 ek ev))] = some (.new (.dct ((mergeL [] l).map (eP ek ev)))) := by
  have h1 : keysOk (l.map (eP ek ev)) = true := by
    unfold keysOk
    rw [List.all_map, List.all_eq_true]
    intro p _
    simp [E.key]
  have := dMerge_map (ev := ev) E l []
  rw [List.map_nil] at this
  simp only [gDict, prsD_map, Option.bind_some, h1, if_true, this, Option.map_some]
/-- dict of anything -/
def pDictD (d : PyData) : Option (List (PyData × PyData)) := match d with
  | .list ds => (prsD ds).bind fun es => if keysOk es = true then dMerge [] es else none
  | _ => none
theorem x_dictD {d : PyData} : gDict [d] = (pDictD d).map (fun z => .new (.dct (z.map (eP eD eD)))) := by
  cases d with
  | list ds =>
    simp only [gDict, pDictD]
    cases prsD ds with
    | none => rfl
    | some es =>
      simp only [Option.bind_some]
      split
      · cases dMerge [] es with
        | none => rfl
        | some z => simp only [Option.map_some, map_ePD]
      · rfl
  | _ => rfl
section
variable {X : Cx} {js : List Nat} {g : MG} {t : MT} {me : ME} {mi : MI} {pos : Pos}
/-- name = [..], the list stays as it is then -/
theorem vs_setLcF {i : Nat} {y : Str} {py spos : Pos} {elt tg iter : Expr} {ifs : List Expr} {scope : Scope} {own : List (Str × Nat)} (hN : X.N.Nodup) (hi : VI X tg iter mi) (ok : BlkOk X.N X.env.scope scope own)
    (hg : ∀ (s : Shared) (H : Hp) (C : Addr) (cl : List (Str × Addr)) (fp : List Addr), VG (X.blk s H scope (compEnvC scope cl C X.env) fp) tg js g) (ht : ∀ (s : Shared) (H : Hp) (C : Addr) (cl : List (Str × Addr)) (fp : List Addr), VTs (X.blk s H scope (compEnvC scope cl C X.env) fp) ifs t)
    (he : ∀ (s : Shared) (H : Hp) (C : Addr) (cl : List (Str × Addr)) (fp : List Addr), VE (X.blk s H scope (compEnvC scope cl C X.env) fp) elt me) (hj : ∀ j, j ∈ js → j ∈ own.map (·.2))
    (hsw : swapsWith (.ListComp elt [⟨tg, iter, ifs, 0⟩] scope pos) (some (.Name y py)) spos.line X.env = pure true) (hy : X.N[i]? = some y := by rfl) (hyl : X.env.scope.names.lookup y = some .local := by rfl) (hc : X.calm = true := by rfl) (hs : ∀ x, foldedSetIterable iter X.env x = pure x := by intro _; rfl) :
    VS X (.Assign [.Name y py] (.ListComp elt [⟨tg, iter, ifs, 0⟩] scope pos) spos) (mSet i (mFrz (mLc mi g t me (own.map (·.2))))) :=
  fun W _ => (ps_setLc hc hN hy hyl hsw hi ok hg ht (fun s H C cl fp => ve_frz (he s H C cl fp)) hs).imp fun D σ H h => lc_run hj (frz_run (set_run h))
end
section
variable {α β γ δ ε ζ η : Type}
abbrev eT6 (a : α → PyData) (b : β → PyData) (c : γ → PyData) (d : δ → PyData) (e : ε → PyData) (f : ζ → PyData) : α × β × γ × δ × ε × ζ → PyData := fun p => .tuple [a p.1, b p.2.1, c p.2.2.1, d p.2.2.2.1, e p.2.2.2.2.1, f p.2.2.2.2.2]
abbrev eT7 (a : α → PyData) (b : β → PyData) (c : γ → PyData) (d : δ → PyData) (e : ε → PyData) (f : ζ → PyData) (g : η → PyData) : α × β × γ × δ × ε × ζ × η → PyData := fun p => .tuple [a p.1, b p.2.1, c p.2.2.1, d p.2.2.2.1, e p.2.2.2.2.1, f p.2.2.2.2.2.1, g p.2.2.2.2.2.2]
end
/-! d.pop(k, x) -/
section
variable {β γ : Type} {env e e1 e2 : Sl} {R : Option β} {i : Nat} {mk mx : ME} {K : Res → Sl → Option β}
def dpop2K (i : Nat) (r1 r2 : Res) (e : Sl) (K : Res → Sl → Option β) : Option β := (dctAt e i).bind fun q => match r1, r2 with
  | .dat dk, .dat dx => (keyOf dk).bind fun k => K (.dat ((dGet q.2 k).getD dx)) (e.set i (q.1.put (.dct (dDrop q.2 k))))
  | _, _ => none
theorem c_dpop2 {q : Slot × List (PyData × PyData)} (h : dctAt env i = some q) (k : bnd (mk env) (fun r1 e1 => bnd (mFrz mx e1) fun r2 e2 => dpop2K i r1 r2 e2 K) = R) : bnd (mDPop2 i mk mx env) K = R := by
  rw [← k]; unfold mDPop2 bnd
  rw [h]
  simp only [Option.bind_some]
  cases mk env with
  | none => rfl
  | some p =>
    simp only [Option.bind_some]
    cases mFrz mx p.2 with
    | none => rfl
    | some y =>
      simp only [Option.bind_some, dpop2K]
      cases dctAt y.2 i with
      | none => rfl
      | some q =>
        simp only [Option.bind_some]
        cases p with
        | mk r1 e1 =>
          cases y with
          | mk r2 e2 =>
            cases r1 with
            | dat dk =>
              cases r2 with
              | dat dx => simp only; cases keyOf dk <;> rfl
              | _ => rfl
            | _ => cases r2 <;> rfl
theorem c_dpop2R {τ : Type} {ev : τ → PyData} {k : (PyData × List (PyData × τ)) → Option γ} {h : γ → Option β} (es : List (PyData × τ)) (x dx : PyData) {s : Slot} (Ev : List (PyData × τ) → Sl) (h1 : dctAt e i = some (s, es.map (eP eD ev))) (hE : ∀ l', e.set i (s.put (.dct (l'.map (eP eD ev)))) = Ev l')
    (p : ∀ z : PyData × List (PyData × τ), K (.dat z.1) (Ev z.2) = (k z).bind h) : dpop2K i (.dat x) (.dat dx) e K = (((keyOf x).map fun q => (((getKD es q).map ev).getD dx, dropKD es q)).bind k).bind h := by
  unfold dpop2K
  rw [h1]
  simp only [Option.bind_some]
  cases keyOf x with
  | none => rfl
  | some kk =>
    simp only [Option.bind_some, Option.map_some, dGet_mapR, dDrop_mapR, hE]
    exact p (((getKD es kk).map ev).getD dx, dropKD es kk)
theorem c_dpop2P {α τ : Type} [DecidableEq α] {ek : α → PyData} {ev : τ → PyData} {kk : α → Key} {k : (PyData × List (α × τ)) → Option γ} {h : γ → Option β} (E : KeyE ek kk) (l : List (α × τ)) (x : α) (dx : PyData) {s : Slot} (Ev : List (α × τ) → Sl) (h1 : dctAt e i = some (s, l.map (eP ek ev))) (hE : ∀ l', e.set i (s.put (.dct (l'.map (eP ek ev)))) = Ev l')
    (p : ∀ z : PyData × List (α × τ), K (.dat z.1) (Ev z.2) = (k z).bind h) : dpop2K i (.dat (ek x)) (.dat dx) e K = ((some (((look l x).map ev).getD dx, dropL l x)).bind k).bind h := by
  unfold dpop2K
  rw [h1]
  simp only [Option.bind_some, E.key, dGet_map E, dDrop_map E, hE]
  exact p (((look l x).map ev).getD dx, dropL l x)
end
/-! sums of things of any make -/
def pSumD (l : List PyData) : Option Int := (intsD l).map (·.sum)
theorem x_sumD {l : List PyData} : gSum [.list (l.map eD)] = (pSumD l).map (fun z => .dat (.int z)) := by
  rw [map_eD]
  show (intsD l).map _ = _
  unfold pSumD
  rw [Option.map_map]
  rfl
end Cm
namespace Cm
open PySem L2
/-! ### min(xs), xs a list of alike data -/
def minOf : List PyData → PyData
  | [] => .none
  | x :: xs => PySem.W.minD x xs
section
variable {X : Cx} {K : PySem.W.Frag} {H Hk : Hp}
def rMinX (K : PySem.W.Frag) : List V → Hp → VK → Prop := fun vs H Q => ∃ (a : Addr) (xs : List V) (ds : List PyData), vs = [V.ref a] ∧ SqL K H a xs ∧ DpAll K H xs ds ∧ sortB ds = true ∧ ds ≠ [] ∧
  ∀ (i : Nat) (v : V) (d : PyData), xs[i]? = some v → ds[i]? = some d → d = minOf ds → Q v H
theorem reads_all {pins : List (Addr × Obj)} {s : Shared} (I : Inv X pins σ H s) : ∀ {xs : List V} {us : List Value} {ds : List PyData}, Paired RelV xs us → DpAll X.K H xs ds → ∃ as, ReadsAll s.heap us ds as
  | _, _, [], .nil, _ => ⟨_, .nil⟩
  | _, _, d :: ds, .cons h1 h2, hd => by
    cases hd with
    | cons d1 d2 =>
      obtain ⟨as, r⟩ := Dp.reads I _ _ _ d1 h1
      obtain ⟨bs, rs⟩ := reads_all I h2 d2
      exact ⟨_, .cons r rs⟩
theorem sort_alike {ds : List PyData} (h : sortB ds = true) : PySem.W.AlikeAll ds := by
  obtain ⟨b1, b2, _⟩ := sort_of h
  refine ⟨b1, fun x hx e => ?_⟩
  subst e
  rcases b2 with b2 | b2
  · obtain ⟨_, _, e⟩ := b2 _ hx
    cases e
  · have := b2 _ hx
    simp at this
theorem depthAll_le {k : Nat} : ∀ {ds : List PyData}, (∀ d ∈ ds, d.depth ≤ k) → PyData.depthAll ds ≤ k
  | [], _ => by simp [PyData.depthAll]
  | d :: ds, h => by
    have h1 := h d List.mem_cons_self
    have h2 := depthAll_le (ds := ds) fun x hx => h x (List.mem_cons_of_mem _ hx)
    simp only [PyData.depthAll]
    omega
theorem cr_minX (hc : X.calm = true) (hu : X.A.units + 64 < cLine) : CallR X (.builtin "min") (rMinX X.K) := by
  intro pins s σ H vs us Q I r h
  obtain ⟨a, xs, ds, rfl, hs, hd, hb, hne, q⟩ := h
  obtain ⟨its, rv, hl, hz⟩ := I.list hs
  rw [Vals.ref1 r]
  obtain ⟨b1, b2, b3, b4⟩ := sort_of hb
  have hlen := dpAll_len hd
  cases ds with
  | nil => exact absurd rfl hne
  | cons d0 ds0 =>
    obtain ⟨as, rd⟩ := reads_all I rv hd
    have hdep := depthAll_le (k := 60) fun d hd' => (b3 d hd').2
    refine PySem.W.min_list_data (x := d0) (xs := ds0) (I.ok.hd hc) hl.isList (by simpa using rd) (sort_alike hb) (by omega) fun i v h' tk bs hv hr hk => ?_
    have hi : its[i]? = some v := by simpa using hv
    have hil : i < its.length := (List.getElem?_eq_some_iff.mp hi).1
    have hxl : xs.length = its.length := rv.length
    have hx : xs[i]? = some (xs[i]'(by omega)) := List.getElem?_eq_getElem (by omega)
    have hdi : i < (d0 :: ds0).length := by omega
    have hde : (d0 :: ds0)[i]? = some ((d0 :: ds0)[i]) := List.getElem?_eq_getElem hdi
    obtain ⟨u, hu1, hu2⟩ := Vals.get rv hx
    rw [hi] at hu1
    cases hu1
    obtain ⟨bs', r2, _, _, _⟩ := PySem.W.readsAll_at rd i v hi
    have r3 := PySem.W.reads_keeps hk r2
    have e1 : (d0 :: ds0).getD i .none = (d0 :: ds0)[i] := by
      rw [List.getD_eq_getElem?_getD, hde]
      rfl
    rw [e1] at r3
    have e2 : (d0 :: ds0)[i] = PySem.W.minD d0 ds0 := (Reads.unique r3 _ _ hr).1
    exact ⟨_, H, I.kept hk, hu2, q i _ _ hx hde e2⟩
def gMinX : List PyData → Option Res
  | [.list ds] => if sortB ds = true ∧ ds ≠ [] then some (.dat (minOf ds)) else none
  | _ => none
theorem dvAll_get : ∀ {vs : List V} {ds : List PyData}, DvAll K Hk vs ds → ∀ (i : Nat) (v : V) (d : PyData), vs[i]? = some v → ds[i]? = some d → Dv K Hk v d
  | _, _, .nil, i, v, d, h, _ => by simp at h
  | _, _, .cons h1 h2, 0, v, d, h, h' => by
    simp at h h'
    subst h
    subst h'
    exact h1
  | _, _, .cons h1 h2, i + 1, v, d, h, h' => dvAll_get h2 i v d (by simpa using h) (by simpa using h')
theorem cd_minX : CallD K (rMinX K) gMinX := by
  intro Hk H vs ds res Q e hv h q
  unfold gMinX at h
  split at h
  · split at h
    · rename_i hz
      cases h
      cases hv with
      | cons v1 v2 =>
        cases v2
        obtain ⟨a, ws, rfl, g1, g2⟩ := v1.list e
        refine ⟨a, ws, _, rfl, SqL.of g1, (dvAll_mono e _ _ g2).dp _ _ (canLayAll_of fun d hd => ((sort_of hz.1).2.2.1 d hd).1), hz.1, hz.2, fun i v d h1 h2 h3 => q _ _ (.inl ⟨rfl, ?_⟩)⟩
        rw [← h3]
        exact dvAll_get g2 i v d h1 h2
    · cases h
  · cases h
end
section
variable {α : Type}
def minA (e : α → PyData) (x : α) (xs : List α) : α := xs.foldl (fun a y => if PySem.W.dataLt (e y) (e a) then y else a) x
def pMinX (e : α → PyData) : List α → Option α
  | [] => none
  | x :: xs => if sortB ((x :: xs).map e) = true then some (minA e x xs) else none
theorem minA_map (e : α → PyData) : ∀ (xs : List α) (x : α), PySem.W.minD (e x) (xs.map e) = e (minA e x xs)
  | [], x => rfl
  | y :: xs, x => by
    have ih := minA_map e xs (if PySem.W.dataLt (e y) (e x) then y else x)
    unfold PySem.W.minD minA at *
    rw [List.map_cons, List.foldl_cons, List.foldl_cons, ← ih]
    congr 1
    split <;> rfl
theorem x_minX {e : α → PyData} {l : List α} : gMinX [.list (l.map e)] = (pMinX e l).map (fun z => .dat (e z)) := by
  cases l with
  | nil => rfl
  | cons x xs =>
    show (if sortB ((x :: xs).map e) = true ∧ (x :: xs).map e ≠ [] then some (Res.dat (minOf ((x :: xs).map e))) else none) = _
    show _ = (if sortB ((x :: xs).map e) = true then some (minA e x xs) else none).map _
    by_cases h : sortB ((x :: xs).map e) = true
    · rw [if_pos ⟨h, by simp⟩, if_pos h]
      show some (Res.dat (PySem.W.minD (e x) (xs.map e))) = _
      rw [minA_map]
      rfl
    · rw [if_neg (fun z => h z.1), if_neg h]
      rfl
end
/-! ### a name's list or dict is frozen ahead of a statement -/
def mFz (i : Nat) (m : MS) : MS := fun env => match env[i]? with
  | some (.own c) => m (env.set i (.val c.dat))
  | _ => m env
theorem fz_run {K : PySem.W.Frag} {i : Nat} {m : MS} {W : WX} {D : Ends} {σ : St} {H : Hp} (h : tS K W (mFz i m) D σ H) : tS K W m D σ H := by
  obtain ⟨B, env, Hk, f, env', R, hm, k⟩ := h
  unfold mFz at hm
  split at hm
  · rename_i c hc
    obtain ⟨a, Hk', _, R', sm, _⟩ := R.freezeC hc
    exact ⟨B, _, Hk', f, env', R', hm, fun σ1 Hk1 H1 R1 s1 => k σ1 Hk1 H1 R1 (sm.trans s1)⟩
  · exact ⟨B, env, Hk, f, env', R, hm, k⟩
theorem vs_fz {X : Cx} {i : Nat} {m : MS} {st : Stmt} (h : VS X st m) : VS X st (mFz i m) := h.imp fun _ _ _ _ => fz_run
theorem c_fz {β : Type} {i : Nat} {a : MS} {env e2 : Sl} {c : Cell} {K : Fl → Sl → Option β} {R : Option β} (h : env[i]? = some (.own c)) (hs : env.set i (.val c.dat) = e2) (k : bnd (a e2) K = R) : bnd (mFz i a env) K = R := by
  subst hs
  unfold mFz
  simp only [h]
  exact k
/-! ### min(i, d), max(i, d) where d is of any make -/
def pInt2 (f : Int → Int → Int) (a b : PyData) : Option Int := match a, b with
  | .int i, .int j => some (f i j)
  | _, _ => none
theorem x_int2D {f : Int → Int → Int} {a b : PyData} : gInt2 f [a, b] = (pInt2 f a b).map (fun z => .dat (.int z)) := by
  cases a <;> cases b <;> rfl
end Cm
/-! dicts and tuples that a module's name is bound to once and for all -/
namespace Cm
open PySem L2
def lkL {β : Type} (L : List (Key × β)) (k : Key) : Option β := (L.find? fun p => decide (p.1 = k)).map (·.2)
/-- a dict among the kept things: its keys, and data that its values are -/
def KD (w : World) (K : PySem.W.Frag) (a : Addr) (L : List (Key × PyData)) : Prop :=
  (a == sysModules) = false ∧ ∃ (o : Obj) (es : Array DictEntry) (ep : Nat), K.lookup a = some o ∧ o.ExactDict ∧ o.data = .dict es ep ∧ (∀ e ∈ es, ∃ k, keyIs k e.key = true ∧ e.hash = keyH w k) ∧
    ∀ k, (findBy keyIs es k = none ∧ lkL L k = none) ∨ ∃ u v d, findBy keyIs es k = some u ∧ RelV v u ∧ lkL L k = some d ∧ ∀ H, Dv K H v d
section
variable {X : Cx} {K : PySem.W.Frag} {a : Addr} {L : List (Key × PyData)} {x : Str} {i e : Expr} {ty : TE} {p pos apos cpos : Pos}
theorem KD.map {pins : List (Addr × Obj)} {σ : St} {H : Hp} {s : Shared} (D : KD X.w X.K a L) (I : Inv X pins σ H s) : ∃ f, s.heap.MapOf (mixKind X.prog X.w) a f ∧ ∀ k, (f k = none ∧ lkL L k = none) ∨ ∃ u v d, f k = some u ∧ RelV v u ∧ lkL L k = some d ∧ ∀ H, Dv X.K H v d := by
  obtain ⟨_, o, es, ep, h1, h2, h3, h4, h5⟩ := D
  exact ⟨findBy keyIs es, ⟨o, es, ep, I.kIn a o h1, h2, h3, h4, fun _ => rfl⟩, h5⟩
def tKGet (K : PySem.W.Frag) (L : List (Key × PyData)) (ty : TE) : TE := fun σ H Q => ty σ H fun y H1 => ∃ k d, y = kV k ∧ lkL L k = some d ∧ ∀ v, (∀ H, Dv K H v d) → Q v H1
theorem pe_kget (D : KD X.w X.K a L) (hg : Gl X x) (hm : X.mg x = some (.ref a)) (hi : PE X i ty) (hs : NoSl i) (hd : (x == ("__debug__" : Str)) = false := by decide) : PE X (.Subscript (.Name x p) i pos) (tKGet X.K L ty) := by
  refine ⟨fun pins s σ H Q I h => ?_⟩
  refine subD_of PySem.F.slot_dict_getitem.lookup hs (thn ((pe_glob (v := .ref a) hg hm rfl hd).run pins s σ H (fun x H1 => x = .ref a ∧ H1 = H) I ⟨rfl, rfl⟩) fun u s1 ⟨x, H1, I1, rx, ex, eh⟩ => ?_)
  subst ex
  subst eh
  obtain rfl : u = Value.ref a := rx
  refine thn (hi.run pins s1 σ H1 _ I1 h) fun iv s2 ⟨y, H2, I2, ry, k, d, ey, hl, q⟩ => ?_
  subst ey
  obtain ⟨f, hf, hk⟩ := D.map I2
  rcases hk k with ⟨_, z⟩ | ⟨u, v, d', g1, g2, g3, g4⟩
  · rw [hl] at z
    cases z
  · rw [hl] at g3
    cases g3
    exact ⟨hf.typeIs, wpAny_getItem_of (kV_is ry) hf g1 ⟨v, H2, I2.tok _, g2, q v g4⟩⟩
def tKGetN (K : PySem.W.Frag) (L : List (Key × PyData)) (ty : TE) : TE := fun σ H Q => ty σ H fun y H1 => ∃ k, y = kV k ∧ ∀ v, (∀ H, Dv K H v ((lkL L k).getD .none)) → Q v H1
theorem pe_kgetN {j : Nat} {np : Pos} (D : KD X.w X.K a L) (hg : Gl X x) (hm : X.mg x = some (.ref a)) (he : PE X e ty) (m : M2 X (.Name x p) "get" apos e (.Constant .none j np) cpos) (hd : (x == ("__debug__" : Str)) = false := by decide) : PE X (.Call (.Attribute (.Name x p) "get" apos) [e, .Constant .none j np] [] cpos) (tKGetN X.K L ty) := by
  refine ⟨fun pins s σ H Q I h => ?_⟩
  refine wpAny_Call_method m.base m.few m.line PySem.F.plainAttrs_dict PySem.F.slot_dict_get PySem.F.type_dict_get (thn ((pe_glob (v := .ref a) hg hm rfl hd).run pins s σ H (fun x H1 => x = .ref a ∧ H1 = H) I ⟨rfl, rfl⟩) fun u s1 ⟨x, H1, I1, rx, ex, eh⟩ => ?_)
  subst ex
  subst eh
  obtain rfl : u = Value.ref a := rx
  obtain ⟨f0, hf0, _⟩ := D.map I1
  refine ⟨hf0.typeIs, hf0.noDict, ?_⟩
  rw [m.trees]
  refine Calls.callWith_builtin rfl (Calls.evalArgs_plain (Calls.spliced_cons (thn (he.run pins s1 σ H1 _ I1 h) fun iv s2 ⟨y, H2, I2, ry, k, ey, q⟩ =>
    Calls.spliced_cons (thn ((pe_non (X := X)).run pins s2 σ H2 (fun z H3 => z = .non ∧ H3 = H2) I2 ⟨rfl, rfl⟩) fun fv s3 ⟨z, H3, I3, rz, ez, eh⟩ => Calls.spliced_nil ?_))))
  subst ey
  subst ez
  subst eh
  obtain ⟨f, hf, hk⟩ := D.map I3
  refine call_meetsIn PySem.F.slot_dict_get hf.typeIs PySem.F.entry_dict_get (PySem.F.args_dict_get_3 _ _ _) (meets_dict_get_default (mixKind X.prog X.w) a (kV_is ry) D.1 fv) ⟨_, hf, ?_⟩
  rcases hk k with ⟨z1, z2⟩ | ⟨u, v, d', g1, g2, g3, g4⟩
  · rw [z1]
    refine ⟨.non, H3, I3.tok _, rz, q _ ?_⟩
    rw [z2]
    exact fun _ => .non
  · rw [g1]
    refine ⟨v, H3, I3.tok _, g2, q _ ?_⟩
    rw [g3]
    exact g4
def mKGet (L : List (Key × PyData)) (mk : ME) : ME := fun env => (mk env).bind fun p => (rdv p.2 (stab p.1)).bind fun kd => (keyOf kd).bind fun k => (lkL L k).map fun d => (.dat d, p.2)
def mKGetN (L : List (Key × PyData)) (mk : ME) : ME := fun env => (mk env).bind fun p => (rdv p.2 (stab p.1)).bind fun kd => (keyOf kd).map fun k => (.dat ((lkL L k).getD .none), p.2)
theorem kget_run {mk : ME} {σ : St} {H : Hp} {Q : VK} (h : tE K (mKGet L mk) σ H Q) : tKGet K L (tE K mk) σ H Q := by
  obtain ⟨B, env, Hk, res, env', R, hm, k⟩ := h
  obtain ⟨⟨y, e1⟩, h1, hm⟩ := Option.bind_eq_some_iff.mp hm
  obtain ⟨dk, g2, hm⟩ := Option.bind_eq_some_iff.mp hm
  obtain ⟨kk, g3, hm⟩ := Option.bind_eq_some_iff.mp hm
  obtain ⟨d, g4, hm⟩ := Option.map_eq_some_iff.mp hm
  cases hm
  refine ⟨B, env, Hk, y, e1, R, h1, fun w Hk2 H2 R2 s2 o2 => ?_⟩
  obtain ⟨Hk2', R2', s2', o2'⟩ := R2.stab o2
  exact ⟨kk, d, (R2'.view o2' g2).key g3, g4, fun v hv => k _ Hk2' H2 R2' (s2.trans s2') (hv _)⟩
theorem kgetN_run {mk : ME} {σ : St} {H : Hp} {Q : VK} (h : tE K (mKGetN L mk) σ H Q) : tKGetN K L (tE K mk) σ H Q := by
  obtain ⟨B, env, Hk, res, env', R, hm, k⟩ := h
  obtain ⟨⟨y, e1⟩, h1, hm⟩ := Option.bind_eq_some_iff.mp hm
  obtain ⟨dk, g2, hm⟩ := Option.bind_eq_some_iff.mp hm
  obtain ⟨kk, g3, hm⟩ := Option.map_eq_some_iff.mp hm
  cases hm
  refine ⟨B, env, Hk, y, e1, R, h1, fun w Hk2 H2 R2 s2 o2 => ?_⟩
  obtain ⟨Hk2', R2', s2', o2'⟩ := R2.stab o2
  exact ⟨kk, (R2'.view o2' g2).key g3, fun v hv => k _ Hk2' H2 R2' (s2.trans s2') (hv _)⟩
theorem ve_kget {mk : ME} (D : KD X.w X.K a L) (hm : X.mg x = some (.ref a)) (hi : VE X i mk) (hs : NoSl i) (hg : Gl X x := by rfl) (hd : (x == ("__debug__" : Str)) = false := by decide) : VE X (.Subscript (.Name x p) i pos) (mKGet L mk) := (pe_kget D hg hm hi hs hd).imp fun _ _ _ => kget_run
theorem ve_kgetN {mk : ME} {j : Nat} {np : Pos} (D : KD X.w X.K a L) (hm : X.mg x = some (.ref a)) (he : VE X e mk) (hg : Gl X x := by rfl) (hb : attributeBase (.Name x p) "get" X.env (eval (.Name x p) X.env) = eval (.Name x p) X.env := by rfl)
    (hf : ((backTo cpos (starEach [e, .Constant .none j np] X.env)).all (fun x => !x.1) && (backToKw cpos (keywordEach [] X.env)).all (fun x => x.1.isSome) && decide (([e, .Constant .none j np] : List Expr).length + ([] : List Keyword).length + (if ([] : List Keyword).isEmpty then 0 else 1) < 30)) = true := by rfl)
    (hl : (apos.endLine == cpos.line) = true := by rfl) (ht : backTo cpos (starEach [e, .Constant .none j np] X.env) = [(false, eval e X.env), (false, eval (.Constant .none j np) X.env)] := by rfl) (hd : (x == ("__debug__" : Str)) = false := by decide) : VE X (.Call (.Attribute (.Name x p) "get" apos) [e, .Constant .none j np] [] cpos) (mKGetN L mk) :=
  (pe_kgetN D hg hm he ⟨hb, hf, hl, ht⟩ hd).imp fun _ _ _ => kgetN_run
end
/-! ### the plain layer -/
section
variable {τ γ β : Type} {ev : τ → PyData} {env e : Sl}
def kdl (ev : τ → PyData) (l : List (Str × τ)) : List (Key × PyData) := l.map fun p => (.inr p.1, ev p.2)
def kS : Key → Option Str
  | .inr s => some s
  | .inl _ => none
theorem lkL_map (k : Key) : ∀ l : List (Str × τ), lkL (kdl ev l) k = ((kS k).bind fun s => look l s).map ev
  | [] => by cases k <;> rfl
  | p :: l => by
    have ih := lkL_map k l
    cases k with
    | inl i =>
      unfold lkL kdl at *
      rw [List.map_cons, List.find?_cons]
      simp only [reduceCtorEq, decide_false]
      exact ih
    | inr s =>
      unfold lkL kdl look at *
      rw [List.map_cons, List.find?_cons]
      by_cases h : p.1 = s
      · simp [h, kS]
      · have h2 : ¬ ((Sum.inr p.1 : Key) = Sum.inr s) := fun z => h (Sum.inr.inj z)
        simp only [h2, decide_false]
        rw [ih]
        simp [kS, h]
def pKGet (l : List (Str × τ)) (d : PyData) : Option τ := (keyOf d).bind fun k => (kS k).bind fun s => look l s
def pKGetN (l : List (Str × τ)) (d : PyData) : Option (Option τ) := (keyOf d).map fun k => (kS k).bind fun s => look l s
def kgetK (L : List (Key × PyData)) (r : Res) (e : Sl) (K : Res → Sl → Option β) : Option β := (rdv e (stab r)).bind fun kd => (keyOf kd).bind fun k => (lkL L k).bind fun d => K (.dat d) e
def kgetNK (L : List (Key × PyData)) (r : Res) (e : Sl) (K : Res → Sl → Option β) : Option β := (rdv e (stab r)).bind fun kd => (keyOf kd).bind fun k => K (.dat ((lkL L k).getD .none)) e
theorem c_kget {L : List (Key × PyData)} {mk : ME} {K : Res → Sl → Option β} {R : Option β} (k : bnd (mk env) (fun r e => kgetK L r e K) = R) : bnd (mKGet L mk env) K = R := by
  rw [← k]
  unfold mKGet bnd kgetK
  cases mk env with
  | none => rfl
  | some p =>
    simp only [Option.bind_some]
    cases rdv p.2 (stab p.1) with
    | none => rfl
    | some d =>
      simp only [Option.bind_some]
      cases keyOf d with
      | none => rfl
      | some k =>
        simp only [Option.bind_some]
        cases lkL L k <;> rfl
theorem c_kgetN {L : List (Key × PyData)} {mk : ME} {K : Res → Sl → Option β} {R : Option β} (k : bnd (mk env) (fun r e => kgetNK L r e K) = R) : bnd (mKGetN L mk env) K = R := by
  rw [← k]
  unfold mKGetN bnd kgetNK
  cases mk env with
  | none => rfl
  | some p =>
    simp only [Option.bind_some]
    cases rdv p.2 (stab p.1) with
    | none => rfl
    | some d =>
      simp only [Option.bind_some]
      cases keyOf d <;> rfl
theorem c_kgetK {K : Res → Sl → Option β} {r : Res} {dk : PyData} {k : τ → Option γ} {h : γ → Option β} (l : List (Str × τ)) (h1 : rdv e (stab r) = some dk) (p : ∀ z : τ, K (.dat (ev z)) e = (k z).bind h) : kgetK (kdl ev l) r e K = ((pKGet l dk).bind k).bind h := by
  unfold kgetK pKGet
  rw [h1, Option.bind_some]
  cases keyOf dk with
  | none => rfl
  | some kk =>
    simp only [Option.bind_some, lkL_map]
    cases (kS kk).bind fun s => look l s with
    | none => rfl
    | some z => exact p z
theorem c_kgetNK {K : Res → Sl → Option β} {r : Res} {dk : PyData} {k : Option τ → Option γ} {h : γ → Option β} (l : List (Str × τ)) (h1 : rdv e (stab r) = some dk) (p : ∀ z : Option τ, K (.dat (eO ev z)) e = (k z).bind h) : kgetNK (kdl ev l) r e K = ((pKGetN l dk).bind k).bind h := by
  unfold kgetNK pKGetN
  rw [h1, Option.bind_some]
  cases keyOf dk with
  | none => rfl
  | some kk =>
    simp only [Option.bind_some, lkL_map, Option.map_some]
    rw [← p]
    cases (kS kk).bind fun s => look l s <;> rfl
end
def pStrD (d : PyData) : Option Str := match d with
  | .int i => pStr i
  | _ => none
theorem x_strD {d : PyData} : gStr [d] = (pStrD d).map (fun z => .dat (.str z)) := by
  cases d with
  | int i => exact x_str
  | _ => rfl
def pSignsD (d : PyData) : Option (List Str) := match d with
  | .str x => some (signs x)
  | _ => none
theorem c_itSDK {β γ : Type} {e : Sl} {d : PyData} {K : List PyData → Sl → Option β} {k : List Str → Option γ} {h : γ → Option β} (p : ∀ l : List Str, K (l.map eS) e = (k l).bind h) : itSK (.dat d) e K = ((pSignsD d).bind k).bind h := by
  cases d with
  | str x => exact p (signs x)
  | _ => rfl
/-! ### what the head has laid -/
def rdK (K : PySem.W.Frag) : Nat → Value → Option PyData
  | 0 => fun _ => none
  | n + 1 => fun v => match v with
    | .none => some .none
    | .bool b => some (.bool b)
    | .int i _ => some (.int i)
    | .str x _ => some (.str x)
    | .ref a => match K.lookup a with
      | some ⟨.type c, _, .seq its _, _⟩ => if c = "tuple" ∧ its.size ≤ sizeLine then (mapO (rdK K n) its.toList).map .tuple else none
      | _ => none
    | _ => none
theorem rdKs_ok {K : PySem.W.Frag} {f : Value → Option PyData} (hf : ∀ u d, f u = some d → ∃ v, RelV v u ∧ ∀ H, Dv K H v d) : ∀ (us : List Value) (ds : List PyData), mapO f us = some ds → ∃ vs, Vals vs us ∧ ∀ H, DvAll K H vs ds
  | [], _, h => by cases h; exact ⟨[], .nil, fun _ => .nil⟩
  | u :: us, ds, h => by
    obtain ⟨d, h1, h⟩ := Option.bind_eq_some_iff.mp (show (f u).bind _ = _ from h)
    obtain ⟨ds', h2, rfl⟩ := Option.map_eq_some_iff.mp h
    obtain ⟨v, a1, a2⟩ := hf u d h1
    obtain ⟨vs, b1, b2⟩ := rdKs_ok hf us ds' h2
    exact ⟨v :: vs, .cons a1 b1, fun H => .cons (a2 H) (b2 H)⟩
theorem rdK_ok {K : PySem.W.Frag} : ∀ (n : Nat) (u : Value) (d : PyData), rdK K n u = some d → ∃ v, RelV v u ∧ ∀ H, Dv K H v d
  | 0, _, _, h => by cases h
  | n + 1, u, d, h => by
    cases u with
    | none => cases h; exact ⟨.non, rfl, fun _ => .non⟩
    | bool b => cases h; exact ⟨.bl b, rfl, fun _ => .bl b⟩
    | int i t => cases h; exact ⟨.int i, ⟨t, rfl⟩, fun _ => .int i⟩
    | str x t => cases h; exact ⟨.str x, ⟨t, rfl⟩, fun _ => .str x⟩
    | ref a =>
      unfold rdK at h
      dsimp only at h
      split at h
      · rename_i c od its ep sl hk
        split at h
        · rename_i hc
          obtain ⟨ds, h1, rfl⟩ := Option.map_eq_some_iff.mp h
          obtain ⟨vs, g1, g2⟩ := rdKs_ok (fun u d => rdK_ok n u d) its.toList ds h1
          exact ⟨.ref a, rfl, fun H => .tup (.inr ⟨_, its, ep, hk, by rw [hc.1], rfl, hc.2, g1⟩) (g2 H)⟩
        · cases h
      · cases h
    | _ => cases h
theorem rd_at {K : PySem.W.Frag} {n : Nat} {a : Addr} {d : PyData} (h : rdK K n (.ref a) = some d) (H : Hp) : Dv K H (.ref a) d := by
  obtain ⟨v, r, q⟩ := rdK_ok n _ d h
  cases v with
  | ref b =>
    have e : Value.ref a = Value.ref b := r
    cases e
    exact q H
  | _ => first | exact absurd (show Value.ref a = _ from r) (by simp) | (obtain ⟨t, e⟩ := (show ∃ t, Value.ref a = _ from r); cases e)
def kdE (K : PySem.W.Frag) : List DictEntry → Option (List (Int × Str × PyData))
  | [] => some []
  | e :: es => match e.key with
    | .str s _ => (rdK K 6 e.val).bind fun d => (kdE K es).map ((e.hash, s, d) :: ·)
    | _ => none
def kdO (K : PySem.W.Frag) (a : Addr) : Option (List (Int × Str × PyData)) := match K.lookup a with
  | some ⟨.type c, none, .dict es _, sl⟩ => if c = "dict" ∧ sl.size = 0 then kdE K es.toList else none
  | _ => none
theorem keyIs_str (w : World) (k : Key) (s : Str) (t : Tok) : keyIs k (.str s t) = decide (k = .inr s) :=
  KeyKind.is_eq_decide (knd := mixKind default w) (k := .inr s) (kV_is (k := .inr s) ⟨t, rfl⟩) k
theorem kdE_ok {w : World} {K : PySem.W.Frag} : ∀ (es : List DictEntry) (l : List (Str × PyData)), kdE K es = some (l.map fun p => (hashStr w p.1, p.1, p.2)) →
    (∀ e ∈ es, ∃ k, keyIs k e.key = true ∧ e.hash = keyH w k) ∧ ∀ k, ((es.find? fun e => keyIs k e.key).map (·.val) = none ∧ lkL (kdl id l) k = none) ∨ ∃ u v d, (es.find? fun e => keyIs k e.key).map (·.val) = some u ∧ RelV v u ∧ lkL (kdl id l) k = some d ∧ ∀ H, Dv K H v d
  | [], l, h => by
    cases l with
    | nil => exact ⟨by simp, fun k => .inl ⟨rfl, rfl⟩⟩
    | cons p l => cases h
  | e :: es, l, h => by
    obtain ⟨hs, ke, vl⟩ := e
    unfold kdE at h
    cases ke with
    | str s t =>
      obtain ⟨d, h1, h⟩ := Option.bind_eq_some_iff.mp (show (rdK K 6 vl).bind _ = _ from h)
      obtain ⟨r, h2, h⟩ := Option.map_eq_some_iff.mp h
      cases l with
      | nil => cases h
      | cons p l =>
        rw [List.map_cons] at h
        injection h with e1 e2
        injection e1 with e3 e4
        injection e4 with e5 e6
        subst e6
        have ih := kdE_ok es l (by rw [h2, e2])
        refine ⟨fun e he => ?_, fun k => ?_⟩
        · rcases List.mem_cons.mp he with rfl | he
          · exact ⟨.inr s, by rw [keyIs_str w]; simp, by show hs = hashStr w s; exact e3.trans (by rw [e5])⟩
          · exact ih.1 e he
        · obtain ⟨v, a1, a2⟩ := rdK_ok 6 vl _ h1
          rw [List.find?_cons]
          show (((match keyIs k (Value.str s t) with | true => some _ | false => _ : Option DictEntry).map _ = none) ∧ _) ∨ _
          rw [keyIs_str w]
          by_cases hk : k = .inr s
          · subst hk
            refine .inr ⟨vl, v, p.2, by simp, a1, ?_, a2⟩
            unfold lkL kdl
            rw [List.map_cons, List.find?_cons]
            simp [e5]
          · have h5 : lkL (kdl id (p :: l)) k = lkL (kdl id l) k := by
              unfold lkL kdl
              rw [List.map_cons, List.find?_cons]
              have : ¬ ((Sum.inr p.1 : Key) = k) := fun z => hk (by rw [← z, e5])
              simp only [this, decide_false]
            rw [h5]
            simp only [hk, decide_false]
            exact ih.2 k
    | _ => cases h
theorem kd_ok {w : World} {K : PySem.W.Frag} {a : Addr} {l : List (Str × PyData)} (h0 : (a == sysModules) = false) (h : kdO K a = some (l.map fun p => (hashStr w p.1, p.1, p.2))) : KD w K a (kdl id l) := by
  refine ⟨h0, ?_⟩
  unfold kdO at h
  split at h
  · rename_i c es ep sl hk
    split at h
    · rename_i hc
      obtain ⟨g1, g2⟩ := kdE_ok es.toList l h
      refine ⟨_, es, ep, hk, ⟨by rw [hc.1], rfl, Array.eq_empty_of_size_eq_zero hc.2⟩, rfl, fun e he => g1 e (by simpa using he), fun k => ?_⟩
      have e : findBy keyIs es k = (es.toList.find? fun e => keyIs k e.key).map (·.val) := by
        unfold findBy
        rw [Array.find?_toList]
      rw [e]
      exact g2 k
    · cases h
  · cases h
/-! ### a world's one setting that the top hangs on -/
def fixW (b : Bool) (w : World) : World := { w with params := { w.params with followText := fun s => if s = "special-get-raises" then b else w.params.followText s } }
theorem fixW_eq (w : World) : fixW (w.params.followText "special-get-raises") w = w := by
  unfold fixW
  have e : (fun s => if s = "special-get-raises" then w.params.followText "special-get-raises" else w.params.followText s) = w.params.followText := by
    funext s
    by_cases h : s = "special-get-raises"
    · rw [if_pos h, h]
    · rw [if_neg h]
  rw [e]
/-! ### the Hook -/
open He in
abbrev AlX : Type := AlD × List (Option PyData) × List (Bool × Option (List (Int × Str × PyData)))
section
open He
def obsX (fa : List Fa) (fn : List DefD) (ds : List (Str × PyData)) (kd : List (Str × List (Str × PyData))) (K : PySem.W.Frag) : AlX := (obsD fa fn K, ds.map (fun p => rdK K 6 (.ref (ga K p.1))), kd.map fun p => (ga K p.1 == sysModules, kdO K (ga K p.1)))
def valX (fn : List DefD) (ds : List (Str × PyData)) (kd : List (Str × List (Str × PyData))) (w : World) : AlX := (valD fn, ds.map (fun p => some p.2), kd.map fun p => (false, some (p.2.map fun q => (hashStr w q.1, q.1, q.2))))
def SaysX (fa : List Fa) (fn : List DefD) (ds : List (Str × PyData)) (kd : List (Str × List (Str × PyData))) (w : World) (K : PySem.W.Frag) : Prop := obsX fa fn ds kd K = valX fn ds kd w
def obsXG (n : Nat) (fa : List Fa) (fn : List DefD) (ds : List (Str × PyData)) (kd : List (Str × List (Str × PyData))) (g : Addr → Option Obj) : AlX := obsX fa fn ds kd (frG g (asD g n))
def hookX (n : Nat) (fa : List Fa) (fn : List DefD) (ds : List (Str × PyData)) (kd : List (Str × List (Str × PyData))) : PySem.W.Hook where
  α := AlX
  obs := fun s => obsXG n fa fn ds kd s.heap.get?
  val := fun w => valX fn ds kd w
  says := fun w h => ∃ K : PySem.W.Frag, K.In h ∧ SaysX fa fn ds kd w K
  of := fun _ _ e => ⟨_, frG_in, e⟩
  keeps := fun _ _ _ ⟨K, hK, c⟩ k => ⟨K, PySem.W.Frag.In.keeps hK k, c⟩
theorem obsXG_eq {n : Nat} {fa : List Fa} {fn : List DefD} {ds : List (Str × PyData)} {kd : List (Str × List (Str × PyData))} {g : Addr → Option Obj} {s : Shared} (h : ∀ a, g a = s.heap.get? a) : obsXG n fa fn ds kd g = (hookX n fa fn ds kd).obs s := by
  have e : g = s.heap.get? := funext h
  rw [e] <;> rfl
variable {fa : List Fa} {fn : List DefD} {ds : List (Str × PyData)} {kd : List (Str × List (Str × PyData))} {w : World} {K : PySem.W.Frag}
theorem SaysX.d (c : SaysX fa fn ds kd w K) : SaysD fa fn K := congrArg (fun z : AlX => z.1) c
theorem SaysX.dat (c : SaysX fa fn ds kd w K) (i : Nat) {p : Str × PyData} (h : ds[i]? = some p := by rfl) (H : Hp) : Dv K H (.ref (ga K p.1)) p.2 := by
  have e : ds.map (fun p => rdK K 6 (.ref (ga K p.1))) = ds.map (fun p => some p.2) := congrArg (fun z : AlX => z.2.1) c
  have e2 : (ds.map (fun p => rdK K 6 (.ref (ga K p.1))))[i]? = (ds.map (fun p => some p.2))[i]? := by rw [e]
  rw [List.getElem?_map, List.getElem?_map, h] at e2
  exact rd_at (Option.some.inj e2) H
theorem SaysX.kd_ (c : SaysX fa fn ds kd w K) (i : Nat) {p : Str × List (Str × PyData)} (h : kd[i]? = some p := by rfl) : KD w K (ga K p.1) (kdl id p.2) := by
  have e : kd.map (fun p => (ga K p.1 == sysModules, kdO K (ga K p.1))) = kd.map fun p => (false, some (p.2.map fun q => (hashStr w q.1, q.1, q.2))) := congrArg (fun z : AlX => z.2.2) c
  have e2 : (kd.map (fun p => (ga K p.1 == sysModules, kdO K (ga K p.1))))[i]? = (kd.map fun p => (false, some (p.2.map fun q => (hashStr w q.1, q.1, q.2))))[i]? := by rw [e]
  rw [List.getElem?_map, List.getElem?_map, h] at e2
  have e3 := Option.some.inj e2
  injection e3 with e4 e5
  exact kd_ok e4 e5
end
theorem kdl_id {τ : Type} (ev : τ → PyData) (l : List (Str × τ)) : kdl ev l = kdl id (l.map fun p => (p.1, ev p.2)) := by
  unfold kdl
  rw [List.map_map]
  rfl
end Cm
/-! texts: which is less, int(text), text times a number; unpacking of things of any make -/
namespace Cm
open PySem L2
section
variable {X : Cx} {K : PySem.W.Frag}
def ltS (a b : Str) : Bool := decide (a.cps.toList < b.cps.toList)
def rLt2 : R2 := fun x y H Q => (rI0 (fun i j => .bl (decide (i < j))) x y H Q) ∨ (∃ i j, x = .str i ∧ y = .str j ∧ Q (.bl (ltS i j)) H)
theorem or_lt2 : OpR X (compareOp .Lt) rLt2 := opr_or op_lt op_lt_str
def gLt2 : PyData → PyData → Option Res
  | .int i, .int j => some (.dat (.bool (decide (i < j))))
  | .str i, .str j => some (.dat (.bool (ltS i j)))
  | _, _ => none
theorem od_lt2 : OpD K rLt2 gLt2 := by
  intro Hk H x y dx dy res Q e vx vy h q
  unfold gLt2 at h
  split at h
  · cases h
    exact .inl ⟨_, _, vx.int, vy.int, q _ _ (.inl ⟨rfl, .bl _⟩)⟩
  · cases h
    exact .inr ⟨_, _, vx.str, vy.str, q _ _ (.inl ⟨rfl, .bl _⟩)⟩
  · cases h
def pLt2 (a b : PyData) : Option Bool := match a, b with
  | .int i, .int j => some (decide (i < j))
  | .str i, .str j => some (ltS i j)
  | _, _ => none
theorem x_lt2 {a b : PyData} : gLt2 a b = (pLt2 a b).map (fun z => .dat (.bool z)) := by
  cases a <;> cases b <;> rfl
theorem x_ltS {a b : Str} : gLt2 (.str a) (.str b) = some (.dat (.bool (ltS a b))) := rfl
/-! int(text) -/
def gIntS : List PyData → Option Res
  | [.str a] => if a.length ≤ 640 then (PySem.intText? a).map fun n => .dat (.int n) else none
  | _ => none
theorem cd_intS : CallD K (fun xs H Q => ∃ a n, xs = [.str a] ∧ PySem.intText? a = some n ∧ a.length ≤ 640 ∧ Q (.int n) H) gIntS := by
  intro Hk H vs ds res Q e hv h q
  unfold gIntS at h
  split at h
  · split at h
    · rename_i hz
      obtain ⟨n, h1, rfl⟩ := Option.map_eq_some_iff.mp h
      cases hv with
      | cons v1 v2 =>
        cases v2
        rw [v1.str]
        exact ⟨_, n, rfl, h1, hz, q _ _ (.inl ⟨rfl, .int _⟩)⟩
    · cases h
  · cases h
def pIntS (a : Str) : Option Int := if a.length ≤ 640 then PySem.intText? a else none
theorem x_intS {a : Str} : gIntS [.str a] = (pIntS a).map (fun z => .dat (.int z)) := by
  unfold pIntS
  show (if a.length ≤ 640 then (PySem.intText? a).map fun n => Res.dat (.int n) else none) = _
  split <;> rfl
/-! text times a number -/
def okMul (x : Str) (n : Int) : Bool := decide (-(2 ^ 62) < n) && decide (n < 2 ^ 62) && decide (x.length * n.toNat ≤ 100000)
theorem mul_ok {x : Str} {n : Int} (h : okMul x n = true) : MulOk x n := by
  unfold okMul at h
  simp only [Bool.and_eq_true, decide_eq_true_eq] at h
  obtain ⟨⟨h1, h2⟩, h3⟩ := h
  refine ⟨?_, fun g1 _ g3 => ?_, fun _ _ => ?_⟩
  · simp only [Bool.or_eq_false_iff, decide_eq_false_iff_not]
    omega
  · have e1 : ((x.length : Int) * n) = ((x.length * n.toNat : Nat) : Int) := by
      rw [Int.natCast_mul, Int.toNat_of_nonneg (by omega)]
    have h5 : (x.length : Int) * n ≤ 2 ^ 63 - 1 := by
      rw [e1]
      omega
    have := (Int.le_ediv_iff_mul_le (a := (x.length : Int)) (b := 2 ^ 63 - 1) (c := n) (by omega)).mpr h5
    omega
  · unfold Builtin.Str.tooLong
    have : x.length * n.toNat ≤ sizeLine := sz_of h3
    first | exact decide_eq_false (by omega) | (simp; omega)
def rMulS : R2 := fun x y H Q => ∃ a n, x = .str a ∧ y = .int n ∧ okMul a n = true ∧ Q (.str (Txt.mul a n)) H
theorem op_mulS : OpR X (binaryOp .Mult) rMulS := by
  intro pins s σ H x y v u Q I rx ry h
  obtain ⟨a, n, rfl, rfl, hk, q⟩ := h
  obtain ⟨t, rfl⟩ := rx
  obtain ⟨t', rfl⟩ := ry
  exact SB.mul (mul_ok hk) fun t2 k => ⟨.str _, H, I.tok _, ⟨_, rfl⟩, q⟩
def gMulS : PyData → PyData → Option Res
  | .str a, .int n => if okMul a n = true then some (.dat (.str (Txt.mul a n))) else none
  | _, _ => none
theorem od_mulS : OpD K rMulS gMulS := by
  intro Hk H x y dx dy res Q e vx vy h q
  unfold gMulS at h
  split at h
  · split at h
    · rename_i hz
      cases h
      exact ⟨_, _, vx.str, vy.int, hz, q _ _ (.inl ⟨rfl, .str _⟩)⟩
    · cases h
  · cases h
def pMulS (a : Str) (n : Int) : Option Str := if okMul a n = true then some (Txt.mul a n) else none
theorem x_mulS {a : Str} {n : Int} : gMulS (.str a) (.int n) = (pMulS a n).map (fun z => .dat (.str z)) := by
  unfold pMulS
  show (if okMul a n = true then _ else _) = _
  split <;> rfl
end
/-! xs[i] op= e of whole numbers -/
section
variable {X : Cx} {K : PySem.W.Frag}
/-- xs[i] where i is not below 0 -/
def at0 {α : Type} (l : List α) (k : Int) : Option α := if 0 ≤ k then l[k.toNat]? else none
def mAugL (i : Nat) (f : Int → Int → Int) (mi m : ME) : MS := fun env => (lstAt env i).bind fun _ => (mi env).bind fun p => match p.1 with
  | .dat (.int k) => (lstAt p.2 i).bind fun q => match at0 q.2 k with
    | some (.int a) => (m p.2).bind fun r => match r.1 with
      | .dat (.int b) => (lstAt r.2 i).bind fun q2 => (ixN q2.2.length k).map fun j => (.nx, r.2.set i (q2.1.put (.lst (q2.2.set j (.int (f a b))))))
      | _ => none
    | _ => none
  | _ => none
theorem dvAll_at {Hk : Hp} {vs : List V} {ds : List PyData} (h : DvAll K Hk vs ds) {k : Int} {a : Int} (e : at0 ds k = some (.int a)) : 0 ≤ k ∧ vs[k.toNat]? = some (.int a) := by
  unfold at0 at e
  by_cases h0 : 0 ≤ k
  case neg => rw [if_neg h0] at e; cases e
  rw [if_pos h0] at e
  refine ⟨h0, ?_⟩
  generalize k.toNat = j at e
  have h2 := e
  have hj : j < ds.length := (List.getElem?_eq_some_iff.mp h2).1
  have hv : vs[j]? = some (vs[j]'(by rw [h.len]; exact hj)) := List.getElem?_eq_getElem _
  have := dvAll_get h j _ _ hv h2
  rw [hv]
  cases hq : vs[j]'(by rw [h.len]; exact hj) with
  | int i => rw [hq] at this; cases this; rfl
  | _ => rw [hq] at this; cases this
def rGetI : V → V → Hp → VK → Prop := fun o i H Q => ∃ p xs k a, o = .ref p ∧ i = .int k ∧ H p = some (.lst xs) ∧ 0 ≤ k ∧ xs[k.toNat]? = some (V.int a) ∧ Q (.int a) H
theorem augL_run {i : Nat} {f : Int → Int → Int} {mi m : ME} {W : WX} {D : Ends} {σ : St} {H : Hp} (h : tS K W (mAugL i f mi m) D σ H) : tAugS (tVar i) (tE K mi) (tE K m) rGetI (ipI f) L2.rSetL D σ H := by
  obtain ⟨B, env, Hk, fl, env', R, hm, kk⟩ := h
  obtain ⟨⟨s0, ds0⟩, h0, hm⟩ := Option.bind_eq_some_iff.mp hm
  obtain ⟨⟨r, e1⟩, h1, hm⟩ := Option.bind_eq_some_iff.mp hm
  obtain ⟨p, vs0, g1, g2, g3, g4, g5⟩ := R.lstAt h0
  refine ⟨_, g3, B, env, Hk, r, e1, R, h1, fun w Hk1 H1 R1 s1 o1 => ?_⟩
  cases r with
  | new c => cases hm
  | slt i => cases hm
  | pv p => cases hm
  | dat dd =>
    cases dd with
    | int k =>
      obtain ⟨⟨s, ds⟩, h2, hm⟩ := Option.bind_eq_some_iff.mp hm
      cases o1
      obtain ⟨p', vs, q1, q2, q3, q4, q5⟩ := R1.lstAt h2
      rw [g3] at q3
      cases q3
      dsimp only at hm
      cases ha : at0 ds k with
      | none => rw [ha] at hm; cases hm
      | some da =>
        rw [ha] at hm
        cases da with
        | int a =>
          obtain ⟨⟨r2, e2⟩, h3, hm⟩ := Option.bind_eq_some_iff.mp hm
          refine ⟨p, vs, k, a, rfl, rfl, q4, (dvAll_at q5 ha).1, (dvAll_at q5 ha).2, ?_⟩
          refine ⟨B, e1, Hk1, r2, e2, R1, h3, fun y Hk2 H2 R2 s2 o2 => ?_⟩
          cases r2 with
          | new c => cases hm
          | slt i => cases hm
          | pv p => cases hm
          | dat d2 =>
            cases d2 with
            | int b =>
              obtain ⟨⟨s3, ds3⟩, h4, hm⟩ := Option.bind_eq_some_iff.mp hm
              obtain ⟨j, h5, hm⟩ := Option.map_eq_some_iff.mp hm
              cases hm
              cases o2
              obtain ⟨p3, vs3, z1, z2, z3, z4, z5⟩ := R2.lstAt h4
              rw [g3] at z3
              cases z3
              refine ⟨a, b, rfl, rfl, p, vs3, k, j, rfl, rfl, z4, by rw [z5.len]; exact h5, ?_⟩
              exact kk σ Hk2 _ (R2.change z1 z2 g3 ⟨_, upd_same, z5.set (.int _) j⟩) (s1.trans s2)
            | _ => cases hm
        | _ => cases hm
    | _ => cases hm
theorem get_listI : PGet X rGetI := by
  intro pins s σ H o i ov iv Q I ro ri h
  obtain ⟨p, xs, k, a, rfl, rfl, hp, h0, he, q⟩ := h
  obtain rfl : ov = Value.ref p := ro
  obtain ⟨t, rfl⟩ := ri
  obtain ⟨its, r, pl, hz⟩ := I.list (SqL.of hp : SqL X.K H p xs)
  obtain ⟨w, ew, rw'⟩ := r.get he
  have hj := (List.getElem?_eq_some_iff.mp he).1
  have hn := line63
  exact wpAny_getItem_list pl.isList h0 (by omega) (by simpa using ew) ⟨.int a, H, I, rw', q⟩
theorem vs_augL {i : Nat} {f : Int → Int → Int} {x : Str} {ix e : Expr} {mi m : ME} {op : Operator} {p tpos pos : Pos} (ho : PIp X op (ipI f)) (hi : VE X ix mi) (he : VE X e m) (hN : X.N[i]? = some x := by rfl) (hv : Vis X.env.scope x := by first | exact Or.inl rfl | exact Or.inr (Or.inl rfl) | exact Or.inr (Or.inr rfl)) (hd : (x == ("__debug__" : Str)) = false := by decide) (hcd : (x == ("__classdict__" : Str)) = false := by decide)
    (ha : ∀ ov iv new, augStore ix ov iv new = (do holding [new, ov, iv] (setItem ov iv new); release [new, ov, iv] []; pure .next) := by intros; rfl) : VS X (.AugAssign (.Subscript (.Name x p) ix tpos) op e pos) (mAugL i f mi m) :=
  fun W _ => (ps_augS (pe_var hN hv hd hcd) hi get_listI he ho set_list ha).imp fun _ _ _ => augL_run
end
section
variable {β γ : Type} {env e : Sl} {i : Nat} {f : Int → Int → Int} {m mi : ME} {K : Fl → Sl → Option β}
def augL2 (i : Nat) (f : Int → Int → Int) (z a : Int) (r : Res) (e : Sl) (K : Fl → Sl → Option β) : Option β := match r with
  | .dat (.int b) => subK i (.int (f a b)) (.dat (.int z)) e fun e => K .nx e
  | _ => none
def augL1 (i : Nat) (f : Int → Int → Int) (m : ME) (r : Res) (e : Sl) (K : Fl → Sl → Option β) : Option β := match r with
  | .dat (.int k) => (lstAt e i).bind fun q => match at0 q.2 k with
    | some (.int a) => bnd (m e) fun r e => augL2 i f k a r e K
    | _ => none
  | _ => none
theorem c_augLs {q : Slot × List PyData} {R : Option β} (h : lstAt env i = some q) (k : bnd (mi env) (fun r e => augL1 i f m r e K) = R) : bnd (mAugL i f mi m env) K = R := by
  rw [← k]
  unfold mAugL bnd
  rw [h]
  simp only [Option.bind_some]
  cases mi env with
  | none => rfl
  | some p =>
    obtain ⟨r, e1⟩ := p
    simp only [Option.bind_some]
    cases r with
    | dat d =>
      cases d with
      | int z =>
        simp only [augL1]
        cases lstAt e1 i with
        | none => rfl
        | some q1 =>
          simp only [Option.bind_some]
          cases at0 q1.2 z with
          | none => rfl
          | some da =>
            cases da with
            | int a =>
              simp only [bnd]
              cases m e1 with
              | none => rfl
              | some p2 =>
                obtain ⟨r2, e2⟩ := p2
                simp only [Option.bind_some]
                cases r2 with
                | dat d2 =>
                  cases d2 with
                  | int b =>
                    simp only [augL2, subK]
                    cases lstAt e2 i with
                    | none => rfl
                    | some q2 =>
                      simp only [Option.bind_some]
                      cases ixN q2.2.length z <;> rfl
                  | _ => rfl
                | _ => rfl
            | _ => rfl
      | _ => rfl
    | _ => rfl
theorem c_augL1 {l : List Int} {s : Slot} {z : Int} {k : Int → Option γ} {h : γ → Option β} (h1 : lstAt e i = some (s, l.map eI)) (p : ∀ a, bnd (m e) (fun r e => augL2 i f z a r e K) = (k a).bind h) : augL1 i f m (.dat (.int z)) e K = ((at0 l z).bind k).bind h := by
  show ((lstAt e i).bind fun q => match at0 q.2 z with | some (.int a) => bnd (m e) fun r e => augL2 i f z a r e K | _ => none) = _
  rw [h1]
  have em : at0 (l.map eI) z = (at0 l z).map eI := by
    unfold at0
    split
    · rw [List.getElem?_map]
    · rfl
  simp only [Option.bind_some, em]
  cases at0 l z with
  | none => rfl
  | some a => exact p a
theorem c_augL2 {l : List Int} {s : Slot} {z a b : Int} {k : List Int → Option γ} {h : γ → Option β} (E : List Int → Sl) (h1 : lstAt e i = some (s, l.map eI)) (hE : ∀ l', e.set i (s.put (.lst (l'.map eI))) = E l') (p : ∀ l', K .nx (E l') = (k l').bind h) : augL2 i f z a (.dat (.int b)) e K = ((pSet l z (f a b)).bind k).bind h :=
  c_gsubK (ec := eI) h1 fun l' => by rw [hE]; exact p l'
end
/-! d % n, d in a text, d of any make -/
def pModD (a b : PyData) : Option Int := match a, b with
  | .int i, .int j => pMod i j
  | _, _ => none
theorem x_modD {a b : PyData} : gMod a b = (pModD a b).map (fun z => .dat (.int z)) := by
  cases a <;> cases b <;> first | rfl | skip
  exact x_mod
def pInSD (neg : Bool) (d : PyData) (y : Str) : Option Bool := match d with
  | .str x => pInS neg x y
  | _ => none
theorem x_inSD {neg : Bool} {d : PyData} {y : Str} : gInS neg d (.str y) = (pInSD neg d y).map (fun z => .dat (.bool z)) := by
  cases d with
  | str x => exact x_inS
  | _ => rfl
/-! xs.extend(d), d of any make -/
def pExtD (l : List PyData) (d : PyData) : Option (List PyData) := match d with
  | .list ds => pCat l ds
  | _ => none
theorem x_extD {l : List PyData} {d : PyData} : fExt (l.map eD) [d] = (pExtD l d).map (fun l => (l.map eD, .none)) := by
  cases d with
  | list ds =>
    have := x_ext (e := eD) (l := l) (l' := ds)
    rw [map_eD (l := ds)] at this
    exact this
  | _ => rfl
/-! unpacking a pair of any make -/
def pUn2 (d : PyData) : Option (PyData × PyData) := match d with
  | .tuple [a, b] => some (a, b)
  | _ => none
theorem c_gun2 {β γ : Type} {g1 g2 : MG} {d : PyData} {e : Sl} {K : Sl → Option β} {k : PyData × PyData → Option γ} {h : γ → Option β} (p : ∀ z : PyData × PyData, (mgCons g1 (mgCons g2 mgNil) [eD z.1, eD z.2] e).bind K = (k z).bind h) : (mgTup (mgCons g1 (mgCons g2 mgNil)) d e).bind K = ((pUn2 d).bind k).bind h := by
  cases d with
  | tuple ds =>
    match ds with
    | [] => rfl
    | [a] =>
      show ((g1 a e).bind fun e => mgCons g2 mgNil [] e).bind K = none
      cases g1 a e <;> rfl
    | [a, b] => exact p (a, b)
    | a :: b :: c :: r =>
      show ((g1 a e).bind fun e => (g2 b e).bind fun e => mgNil (c :: r) e).bind K = none
      cases g1 a e with
      | none => rfl
      | some e1 =>
        show ((g2 b e1).bind fun e => mgNil (c :: r) e).bind K = none
        cases g2 b e1 <;> rfl
  | _ => rfl
end Cm
/-! Defs that are called where no repr is under way: repr(x), str(x) of lists and tuples within them. -/
namespace Cm
open PySem PySem.Spec PyProof.Rows L2
structure FnG (P : Program) (w : World) (K : PySem.W.Frag) (mg : Str → Option Value) (base : Heap) (k : Nat) (f : Addr) (fd : FuncData) (ps : List Str) (sp : Sp) : Prop where
  count : ∀ xs H Q E, sp xs H Q E → xs.length = ps.length
  goes : ∀ (A : Around) (fs : List Env) (s : Shared) (H : Hp) (args : Args) (ys : List Value) (xs : List V) (Q : VK) (E : XK), A.guards = some [] → Room k A → Env0 P w K mg base A fs s H →
    BindsTo s fd args (ps.zip ys) → Vals xs ys → sp xs H Q E → codeAny (model P w) A (.call (.ref f) args) (CR CX0 fs P w H s Q E) s
section
variable {P : Program} {w : World} {K : PySem.W.Frag} {mg : Str → Option Value} {base : Heap}
theorem FnG.of {k : Nat} {f : Addr} {fd : FuncData} {ps : List Str} {sp : Sp} (F : FnOk P w K mg base CX0 k f fd ps sp) : FnG P w K mg base k f fd ps sp :=
  ⟨F.len, fun A fs s H args ys xs Q E _ => F.run A fs s H args ys xs Q E⟩
theorem FnG.less {k : Nat} {f : Addr} {fd : FuncData} {ps : List Str} {sp sp' : Sp} (F : FnG P w K mg base k f fd ps sp) (i : ∀ xs H Q E, sp' xs H Q E → sp xs H Q E) : FnG P w K mg base k f fd ps sp' :=
  ⟨fun xs H Q E q => F.count xs H Q E (i xs H Q E q), fun A fs s H args ys xs Q E g r e b v q => F.goes A fs s H args ys xs Q E g r e b v (i xs H Q E q)⟩
theorem FnG.up {j k : Nat} {f : Addr} {fd : FuncData} {ps : List Str} {sp : Sp} (F : FnG P w K mg base j f fd ps sp) (h : j ≤ k) : FnG P w K mg base k f fd ps sp :=
  ⟨F.count, fun A fs s H args ys xs Q E g r => F.goes A fs s H args ys xs Q E g (r.mono h)⟩
/-- the frame's own guards are none -/
theorem deeper_guards {A : Around} {env : Env} (h : A.guards = some []) : (A.deeper env).guards = some [] := h
theorem fn_okG {x qual : Str} {st : Stmt} {f : Addr} {fd : FuncData} {N ps : List Str} {k : Nat} {mb : MS} (F : FunD K x qual (defArgs st) (defBody st) (defScope st) [] [] f fd) (S : FnScope N ps (defScope st))
    (hb : ∀ (cdv : Value) (A : Around) (fs : List Env) (s : Shared) (H : Hp) (E : XK), A.guards = some [] → Room k (A.deeper (envOfC qual (defScope st) s.heap.objs.size f cdv)) →
      VSs ((cxOf CX0 P w K mg base N qual (defScope st) f cdv A fs s H E).nox) (defBody st) mb) : FnG P w K mg base (k + 1) f fd ps (spF K (fmOf ps.length N.length mb)) := by
  have ⟨oc, od, dV, kV, doc, pm, an, cd, ct, osl, efd, look, code, _, _⟩ := F.ex
  constructor
  · exact spF_len
  · intro A fs s H args ys xs Q E hg hr e bi rv h
    subst efd
    have old : ∀ b o, base.get? b = some o → s.heap.get? b = some o := fun b o q => (e.bs b o q).1
    have inK : K.In s.heap := e.mod.kin.keeps old
    obtain ⟨t, pt, qt⟩ := fn_body S (hb cd A fs s H E hg (hr.deeper _)) h
    apply codeAny_call_function hr.depth (inK _ _ look) rfl S.co S.gen rfl (PySem.W.codeRec_of inK code)
    apply bi
    apply wpAny_newFunctionEnv_cells S.kind
    · intro y hy
      obtain ⟨n, v⟩ := y
      cases S.par n (List.of_mem_zip hy).1 with
      | inl q => exact Or.inl q
      | inr q => exact Or.inr ⟨q, PySem.W.cellsFrom_some _ _ _ (Or.inl q)⟩
    · rintro _ rfl s1 c
      constructor
      · exact (e.mod.nolimit.keeps old).keeps c.toInCall.keep
      · have I : Inv (cxOf CX0 P w K mg base N qual (defScope st) f cd A fs s H E) [] (L2.start N xs) H s1 := inv_start S hr.hd e (spF_len xs H Q E h) rv c
        apply codeAny_func
        apply wpAny_mono (pt.run [] s1 (L2.start N xs) H _ I qt)
        · intro fl s' q
          cases fl with
          | next =>
            obtain ⟨_, H', J, q⟩ := q
            exact ⟨V.non, H', J.os, J.bare, J.base, J.hok, rfl, q⟩
          | ret u =>
            obtain ⟨v, _, H', J, rv, q⟩ := q
            exact ⟨v, H', J.os, J.bare, J.base, J.hok, rv, q⟩
          | brk => exact q.elim fun _ z => z.elim fun _ z => z.2.elim
          | cont => exact q.elim fun _ z => z.elim fun _ z => z.2.elim
        · exact fun _ _ q => q
/-- the script in the abstract heap: it is frozen, or one of the module's own lists -/
theorem script_at {h : Heap} {a : Addr} {vs : List Value} {ns : List Int} (KX : K.In h) (ha : h.get? a = some { cls := .type "list", data := .seq vs.toArray }) (hi : IntsAre vs ns) (hl : ns.length ≤ sizeLine) :
    ∃ H : Hp, SqL K H a (ns.map V.int) ∧ HOk P w H h ∧ (∀ b u, H b = some u → b = a ∧ K.lookup a = none ∧ u = .frz { cls := .type "list", data := .seq vs.toArray } (.lst (ns.map V.int))) := by
  have rv := vals_ints hi
  cases hk : K.lookup a with
  | some o =>
    have e := KX a o hk
    rw [ha] at e
    obtain rfl := Option.some.inj e
    refine ⟨fun _ => none, Or.inr ⟨_, vs.toArray, _, hk, rfl, rfl, rfl, ?_, by simpa using rv⟩, (fun _ u (z : (none : Option HO) = some u) => nomatch z), (fun _ u (z : (none : Option HO) = some u) => nomatch z)⟩
    rw [List.size_toArray, hi.length]
    exact hl
  | none =>
    let u : HO := .frz { cls := .type "list", data := .seq vs.toArray } (.lst (ns.map V.int))
    have at_ : ∀ b v, (if b = a then some u else none) = some v → b = a ∧ v = u := fun b v z => by
      by_cases q : b = a
      · rw [if_pos q] at z
        exact ⟨q, (Option.some.inj z).symm⟩
      · rw [if_neg q] at z
        cases z
    refine ⟨fun b => if b = a then some u else none, Or.inl (Or.inr ⟨_, if_pos rfl⟩), fun b v z => ?_, fun b v z => ⟨(at_ b v z).1, rfl, (at_ b v z).2⟩⟩
    obtain ⟨rfl, rfl⟩ := at_ b v z
    exact ⟨ha, by rw [List.length_map]; exact hl, vs, _, rv, ha⟩
theorem law_callG {mb : Str → Option Value} {k : Nat} {fa a : Addr} {fd : FuncData} {x : Str} {sp : Sp} {s₁ : Shared} {vs : List Value} {ns : List Int}
    (KX : K.In s₁.heap) (g0 : s₁.heap.Ns mainGlobals mg) (b0 : s₁.heap.Ns builtinsNs mb) (b1 : ∀ x : Str, x ≠ "__name__" → mb x = bootBuiltins x) (nl : s₁.heap.NoLimit) (ge : s₁.gens = #[])
    (ha : s₁.heap.get? a = some { cls := .type "list", data := .seq vs.toArray }) (hi : IntsAre vs ns) (hl : ns.length ≤ sizeLine) (room : Room k callerA)
    (F : ∀ base : Heap, K.In base → base.Ns mainGlobals mg → FnG P w K mg base k fa fd [x] sp) (bi : ∀ (s : Shared) (u : Value), BindsTo s fd ⟨[u], []⟩ [(x, u)])
    (good : ∀ H : Hp, SqL K H a (ns.map V.int) → sp [.ref a] H (fun v _ => v = .bl true) fun _ _ _ => False) :
    codeAny (model P w) callerA (.call (.ref fa) ⟨[.ref a], []⟩) (fun z t => z = .ok (.ret (.bool true)) ∧ OldK s₁.heap t.heap ∧ t.os = s₁.os ∧ AllBare t.gens) s₁ := by
  obtain ⟨H, hS, hok, only⟩ := script_at (P := P) (w := w) KX ha hi hl
  have free : ∀ {b : Addr} {o : Obj} {es : Array DictEntry} {n : Nat}, s₁.heap.get? b = some o → o.data = .dict es n → H b = none := fun {b o es n} e d => by
    cases q : H b with
    | none => rfl
    | some u =>
      obtain ⟨rfl, _, _⟩ := only b u q
      rw [ha] at e
      obtain rfl := Option.some.inj e
      cases d
  have ns' : ∀ {b : Addr} {m : Str → Option Value}, s₁.heap.Ns b m → (hidT s₁.heap H).Ns b m := fun {b m} n => by
    obtain ⟨o, es, n, e, d, r⟩ := n
    exact ⟨o, es, n, hidT_get e (free e d), d, r⟩
  have kb : K.In (hidT s₁.heap H) := fun b o e => hidT_get (KX b o e) (by
    cases q : H b with
    | none => rfl
    | some u =>
      obtain ⟨rfl, z, _⟩ := only b u q
      rw [z] at e
      cases e)
  obtain ⟨mc, l1, l2⟩ := nl
  have env : Env0 P w K mg (hidT s₁.heap H) callerA [] s₁ H := by
    refine ⟨rfl, ⟨kb, ns' g0, ⟨mb, ns' b0, b1⟩, ⟨mc, ns' l1, l2⟩⟩, fun b o e => of_hidT e, Nat.le_of_eq (hidT_size _ _), trivial, fun b z => ?_, hok, .of_eq ge⟩
    cases (show b ∈ ([] : List Addr) from z)
  have run := (F _ kb (ns' g0)).goes callerA [] s₁ H ⟨[.ref a], []⟩ [.ref a] [.ref a] _ _ rfl room env (bi s₁ (.ref a)) (.cons rfl .nil) (good H hS)
  apply codeAny_mono run
  intro r s' q
  match r, q with
  | .ok (.ret u), q =>
    obtain ⟨v, H', os, bare, un, hok', rv, hv⟩ := q
    have hv : v = .bl true := hv
    subst hv
    have ru : u = Value.bool true := rv
    refine ⟨by rw [ru], OldK.of_keep fun b o e => ?_, os, bare⟩
    cases q : H b with
    | none => exact un.keep b o e q (fun z => by cases (show b ∈ ([] : List Addr) from z)) (by simp)
    | some u =>
      obtain ⟨rfl, _, rfl⟩ := only b u q
      have z1 := (hok b _ q).1
      have z2 := (hok' b _ (un.frzs b _ _ q)).1
      rw [e] at z1
      rw [z2, z1]
end
/-- a law whose text looks at reprs -/
theorem walk_ofG {l : PySem.W.OpenLaw} {n k : Nat} {q : Program} {loose : List Str} {XP : (Str → Option Value) → Heap → Prop} {YP : World → Heap → Prop} {d : DefRec} {x : Str}
    (m1 : l.most = some n) (m2 : n ≤ sizeLine) (d0 : d.params.defaults = []) (room : Room k callerA)
    (F : ∀ (w : World) (mg : Str → Option Value) (fa : Addr) (h : Heap), YP w h → h.Ns mainGlobals mg → mg d.name = some (.ref fa) → ∃ (K : PySem.W.Frag) (fd : FuncData) (sp : Sp), K.In h ∧ (∀ (s : Shared) (u : Value), BindsTo s fd ⟨[u], []⟩ [(x, u)]) ∧
        (∀ (H : Hp) (a : Addr) (ns : List Int), ns.length ≤ n → SqL K H a (ns.map V.int) → sp [.ref a] H (fun v _ => v = .bl true) fun _ _ _ => False) ∧
        ∀ base : Heap, K.In base → base.Ns mainGlobals mg → FnG l.prog w K mg base k fa fd [x] sp) :
    PySem.W.WalkO q loose XP YP l.row.toRowW d [] (fun g ws => PySem.call g ws) := by
  apply Att.attach_call m1 d0
  intro w s₀ s₁ mg mb fa o pm cd doc a vs ns G Y ho hd hcd hmg hobj hints hlen hg
  obtain ⟨K, fd, sp, KX, hb, hsp, hF⟩ := F w mg fa _ Y G.T.g hmg
  exact law_callG KX G.T.g G.T.b G.T.builtins G.T.nolimit hg hobj hints (Nat.le_trans hlen m2) room hF hb fun H hS => hsp H a ns hlen hS
/-! ### repr(x), str(x) -/
/-- data whose repr can be told -/
def shOk (d : PyData) : Bool := d.showable && d.canLay0 && !d.hasDict && decide (d.depth ≤ 100) && decide (d.shown.length ≤ 10000000)
def gRepr : List PyData → Option Res
  | [d] => if shOk d = true then some (.dat (.str d.shown)) else none
  | _ => none
def gStrX : List PyData → Option Res
  | [.str x] => some (.dat (.str x))
  | [d] => if shOk d = true then some (.dat (.str d.shown)) else none
  | _ => none
section
variable {X : Cx} {K : PySem.W.Frag}
theorem sh_parts {d : PyData} (h : shOk d = true) : d.showable = true ∧ d.canLay0 = true ∧ d.hasDict = false ∧ d.depth ≤ 100 ∧ d.shown.length ≤ sizeLine := by
  unfold shOk at h
  simp only [Bool.and_eq_true, Bool.not_eq_true', decide_eq_true_eq] at h
  refine ⟨h.1.1.1.1, h.1.1.1.2, h.1.1.2, h.1.2, Nat.le_trans h.2 (by decide)⟩
theorem call_reprD {k : Nat} (hg : X.A.guards = some []) (hr : Room k X.A) : CallR X (.builtin "repr") (fun xs H Q => ∃ v d, xs = [v] ∧ Dp X.K H v d ∧ shOk d = true ∧ Q (.str d.shown) H) := by
  intro pins s σ H xs us Q I r h
  have hu := hr.un
  obtain ⟨v, d, rfl, hd, hs, q⟩ := h
  cases r with
  | cons r1 r2 =>
    cases r2
    obtain ⟨s1, s2, s3, s4, s5⟩ := sh_parts hs
    rename_i u
    obtain ⟨as, rd⟩ := Dp.reads I d v u hd r1
    cases hd with
    | non =>
      obtain rfl : u = Value.none := r1
      exact P.repr_of_none ⟨.str _, H, I.tok _, ⟨_, rfl⟩, q⟩
    | bl b =>
      obtain rfl : u = Value.bool b := r1
      exact P.repr_of_bool ⟨.str _, H, I.tok _, ⟨_, rfl⟩, by cases b <;> exact q⟩
    | int i =>
      obtain ⟨t, rfl⟩ := (show ∃ t, u = Value.int i t from r1)
      exact P.repr_of_int (by simpa [PyData.showable] using s1) ⟨.str _, H, I.tok _, ⟨_, rfl⟩, q⟩
    | str x =>
      obtain ⟨t, rfl⟩ := (show ∃ t, u = Value.str x t from r1)
      exact P.repr_of_str ⟨.str _, H, I.tok _, ⟨_, rfl⟩, q⟩ s5
    | lst a1 a2 =>
      rename_i a xs ds
      obtain rfl : u = Value.ref a := r1
      exact repr_of_reads' rd s1 (fun z => by rw [s3] at z; cases z) hg (by omega) (fun _ _ e => e) (fun h' u tk hk => ⟨.str _, H, I.kept hk, ⟨_, rfl⟩, q⟩) s5
    | tup a1 a2 =>
      rename_i a xs ds
      obtain rfl : u = Value.ref a := r1
      exact repr_of_reads' rd s1 (fun z => by rw [s3] at z; cases z) hg (by omega) (fun _ _ e => e) (fun h' u tk hk => ⟨.str _, H, I.kept hk, ⟨_, rfl⟩, q⟩) s5
theorem call_strX {k : Nat} (hg : X.A.guards = some []) (hr : Room k X.A) : CallR X (.type "str") (fun xs H Q => (∃ x, xs = [.str x] ∧ Q (.str x) H) ∨ ∃ v d, xs = [v] ∧ Dp X.K H v d ∧ (∀ x, d ≠ .str x) ∧ shOk d = true ∧ Q (.str d.shown) H) := by
  intro pins s σ H xs us Q I r h
  have hu := hr.un
  rcases h with ⟨x, rfl, q⟩ | ⟨v, d, rfl, hd, hn, hs, q⟩
  · cases r with
    | cons r1 r2 =>
      cases r2
      rename_i u
      obtain ⟨t, rfl⟩ := (show ∃ t, u = Value.str x t from r1)
      exact P.str_of_str ⟨.str _, H, I, ⟨_, rfl⟩, q⟩
  · cases r with
    | cons r1 r2 =>
      cases r2
      obtain ⟨s1, s2, s3, s4, s5⟩ := sh_parts hs
      rename_i u
      obtain ⟨as, rd⟩ := Dp.reads I d v u hd r1
      cases hd with
      | non =>
        obtain rfl : u = Value.none := r1
        exact P.str_of_none ⟨.str _, H, I.tok _, ⟨_, rfl⟩, q⟩
      | bl b =>
        obtain rfl : u = Value.bool b := r1
        exact P.str_of_bool ⟨.str _, H, I.tok _, ⟨_, rfl⟩, by cases b <;> exact q⟩
      | int i =>
        obtain ⟨t, rfl⟩ := (show ∃ t, u = Value.int i t from r1)
        exact P.str_of_int (by simpa [PyData.showable] using s1) ⟨.str _, H, I.tok _, ⟨_, rfl⟩, q⟩
      | str x => exact absurd rfl (hn x)
      | lst a1 a2 =>
        rename_i a xs ds
        obtain rfl : u = Value.ref a := r1
        exact str_of_reads rd s1 (fun z => by rw [s3] at z; cases z) hg (by omega) (fun _ _ e => e) (fun h' u tk hk => ⟨.str _, H, I.kept hk, ⟨_, rfl⟩, q⟩) s5
      | tup a1 a2 =>
        rename_i a xs ds
        obtain rfl : u = Value.ref a := r1
        exact str_of_reads rd s1 (fun z => by rw [s3] at z; cases z) hg (by omega) (fun _ _ e => e) (fun h' u tk hk => ⟨.str _, H, I.kept hk, ⟨_, rfl⟩, q⟩) s5
theorem cd_repr : CallD K (fun xs H Q => ∃ v d, xs = [v] ∧ Dp K H v d ∧ shOk d = true ∧ Q (.str d.shown) H) gRepr := by
  intro Hk H vs ds res Q e hv h q
  unfold gRepr at h
  split at h
  · rename_i d
    split at h
    · rename_i hs
      cases h
      cases hv with
      | cons v1 v2 =>
        cases v2
        exact ⟨_, d, rfl, (v1.dv e).dp _ _ (sh_parts hs).2.1, hs, q _ _ (.inl ⟨rfl, .str _⟩)⟩
    · cases h
  · cases h
theorem cd_strX : CallD K (fun xs H Q => (∃ x, xs = [.str x] ∧ Q (.str x) H) ∨ ∃ v d, xs = [v] ∧ Dp K H v d ∧ (∀ x, d ≠ .str x) ∧ shOk d = true ∧ Q (.str d.shown) H) gStrX := by
  intro Hk H vs ds res Q e hv h q
  unfold gStrX at h
  split at h
  · cases h
    cases hv with
    | cons v1 v2 =>
      cases v2
      rw [v1.str]
      exact .inl ⟨_, rfl, q _ _ (.inl ⟨rfl, .str _⟩)⟩
  · rename_i d hn
    split at h
    · rename_i hs
      cases h
      cases hv with
      | cons v1 v2 =>
        cases v2
        exact .inr ⟨_, d, rfl, (v1.dv e).dp _ _ (sh_parts hs).2.1, fun x z => hn x z, hs, q _ _ (.inl ⟨rfl, .str _⟩)⟩
    · cases h
  · cases h
end
/-! ### the plain layer -/
def pRepr (d : PyData) : Option Str := if shOk d = true then some d.shown else none
def pStrX : PyData → Option Str
  | .str x => some x
  | d => if shOk d = true then some d.shown else none
theorem x_repr {d : PyData} : gRepr [d] = (pRepr d).map fun z => .dat (.str z) := by
  show (if shOk d = true then some (Res.dat (.str d.shown)) else none) = _
  unfold pRepr
  split
  · rfl
  · rfl
theorem x_strX {d : PyData} : gStrX [d] = (pStrX d).map fun z => .dat (.str z) := by
  unfold gStrX pStrX
  cases d <;> first | rfl | (simp only []; split <;> rfl)
/-! ### str(x) of no list and no tuple -/
def gStrF : List PyData → Option Res
  | [.str x] => some (.dat (.str x))
  | [.int i] => if i.natAbs.log2 < 1920 then some (.dat (.str (toString i))) else none
  | [.bool b] => some (.dat (.str (if b then "True" else "False")))
  | [.none] => some (.dat (.str "None"))
  | _ => none
def rStrF (xs : List V) (H : Hp) (Q : VK) : Prop := (∃ x, xs = [.str x] ∧ Q (.str x) H) ∨ (∃ i, xs = [.int i] ∧ i.natAbs.log2 < 1920 ∧ Q (.str (toString i)) H) ∨ (∃ b, xs = [.bl b] ∧ Q (.str (if b then "True" else "False")) H) ∨ (xs = [.non] ∧ Q (.str "None") H)
section
variable {X : Cx} {K : PySem.W.Frag}
theorem call_strF : CallR X (.type "str") rStrF := by
  intro pins s σ H xs us Q I r h
  rcases h with ⟨x, rfl, q⟩ | ⟨i, rfl, hz, q⟩ | ⟨b, rfl, q⟩ | ⟨rfl, q⟩
  all_goals
    cases r with
    | cons r1 r2 =>
      cases r2
      rename_i u
      first
        | (obtain ⟨t, rfl⟩ := (show ∃ t, u = Value.str x t from r1); exact P.str_of_str ⟨.str _, H, I, ⟨_, rfl⟩, q⟩)
        | (obtain ⟨t, rfl⟩ := (show ∃ t, u = Value.int i t from r1); exact P.str_of_int hz ⟨.str _, H, I.tok _, ⟨_, rfl⟩, q⟩)
        | (obtain rfl : u = Value.bool b := r1; exact P.str_of_bool ⟨.str _, H, I.tok _, ⟨_, rfl⟩, by cases b <;> exact q⟩)
        | (obtain rfl : u = Value.none := r1; exact P.str_of_none ⟨.str _, H, I.tok _, ⟨_, rfl⟩, q⟩)
theorem cd_strF : CallD K rStrF gStrF := by
  intro Hk H vs ds res Q e hv h q
  unfold gStrF at h
  split at h
  · cases h
    cases hv with
    | cons v1 v2 =>
      cases v2
      rw [v1.str]
      exact .inl ⟨_, rfl, q _ _ (.inl ⟨rfl, .str _⟩)⟩
  · split at h
    · rename_i hz
      cases h
      cases hv with
      | cons v1 v2 =>
        cases v2
        rw [v1.int]
        exact .inr (.inl ⟨_, rfl, hz, q _ _ (.inl ⟨rfl, .str _⟩)⟩)
    · cases h
  · cases h
    cases hv with
    | cons v1 v2 =>
      cases v2
      rw [v1.bool]
      exact .inr (.inr (.inl ⟨_, rfl, q _ _ (.inl ⟨rfl, .str _⟩)⟩))
  · cases h
    cases hv with
    | cons v1 v2 =>
      cases v2
      rw [v1.non]
      exact .inr (.inr (.inr ⟨rfl, q _ _ (.inl ⟨rfl, .str _⟩)⟩))
  · cases h
end
def pStrF : PyData → Option Str
  | .str x => some x
  | .int i => pStr i
  | .bool b => some (if b then "True" else "False")
  | .none => some "None"
  | _ => none
theorem x_strF {d : PyData} : gStrF [d] = (pStrF d).map fun z => .dat (.str z) := by
  cases d with
  | int i =>
    show (if i.natAbs.log2 < 1920 then some (Res.dat (.str (toString i))) else none) = (pStr i).map _
    unfold pStr
    split <;> rfl
  | _ => rfl
/-! ### the call of a def that wants that no repr is under way -/
section
variable {X : Cx} {k : Nat} {f : Addr} {fd : FuncData} {ps : List Str} {x : Str} {p pos : Pos} {e : Expr} {es : List Expr}
theorem pe_callG {sp : Sp} {E : XK} {t : TA} (F : FnG X.prog X.w X.K X.mg X.base k f fd ps sp) (g : X.A.guards = some []) (hr : Room k X.A) (hg : Gl X x) (hm : X.mg x = some (.ref f)) (hk : PySem.W.keepIn X.K (.ref f) = true) (hb : Binds X.K fd ps [])
    (ha : PA X (e :: es) t) (hdb : (x == ("__debug__" : Str)) = false := by decide) (he : starEach (e :: es) X.env = (false, eval e X.env) :: starEach es X.env := by rfl) (hpl : (backTo pos (starEach es X.env)).any (·.1) = false := by rfl) :
    PE X (.Call (.Name x p) (e :: es) [] pos) (tCall sp [] E t) := by
  constructor
  intro pins s σ H Q I h
  apply wpAny_Call_Name_kw
  apply ld_glob I hg hm _ hdb
  apply PySem.W.callWith_K (h₀ := X.base) I.ok.mod.kin hk _ he hpl
  apply thn (ha.run pos pins s σ H _ I h)
  rintro us s1 ⟨vs, H1, I1, r, q⟩
  refine ⟨I1.kIn, ?_⟩
  have q2 : sp (vs ++ []) H1 Q E := q
  have r2 : Vals (vs ++ []) (us ++ []) := r.append .nil
  have hl : (us ++ []).length = ps.length := by
    rw [← r2.length]
    exact F.count _ _ _ _ q2
  apply wpAny_call
  apply codeAny_mono (F.goes X.A X.stack s1 H1 ⟨us, []⟩ (us ++ []) (vs ++ []) Q E g hr I1.env0 (hb s1 us I1.kIn hl) r2 q2)
  intro z s' hz
  match z, hz with
  | .ok (.ret u), hz => exact I1.after hz
theorem ve_callVG {fm : FM} {ms : MA} (io : Option Nat) (F : FnG X.prog X.w X.K X.mg X.base k f fd ps (spF X.K fm)) (g : X.A.guards = some []) (hr : Room k X.A) (hm : X.mg x = some (.ref f)) (hk : PySem.W.keepIn X.K (.ref f) = true) (hb : Binds X.K fd ps [])
    (ha : VA X (e :: es) ms) (hg : Gl X x := by rfl) (hdb : (x == ("__debug__" : Str)) = false := by decide) (he : starEach (e :: es) X.env = (false, eval e X.env) :: starEach es X.env := by rfl) (hpl : (backTo pos (starEach es X.env)).any (·.1) = false := by rfl) :
    VE X (.Call (.Name x p) (e :: es) [] pos) (mCallV fm io ms) := (pe_callG (E := E0) F g hr hg hm hk hb ha hdb he hpl).imp fun _ _ _ => callV_run
theorem ve_callFG {fm : FM} {ms : MA} (io : Option Nat) (F : FnG X.prog X.w X.K X.mg X.base k f fd ps (spF X.K fm)) (g : X.A.guards = some []) (hr : Room k X.A) (hm : X.mg x = some (.ref f)) (hk : PySem.W.keepIn X.K (.ref f) = true) (hb : Binds X.K fd ps [])
    (ha : VA X (e :: es) ms) (hg : Gl X x := by rfl) (hdb : (x == ("__debug__" : Str)) = false := by decide) (he : starEach (e :: es) X.env = (false, eval e X.env) :: starEach es X.env := by rfl) (hpl : (backTo pos (starEach es X.env)).any (·.1) = false := by rfl) :
    VE X (.Call (.Name x p) (e :: es) [] pos) (mCallF fm io ms) := (pe_callG (E := E0) F g hr hg hm hk hb ha hdb he hpl).imp fun _ _ _ => callF_run
end
end Cm
/-! zip of two things that are lists, tuples or texts -/
namespace Cm
open PySem PySem.Spec PyProof.Rows L2
inductive Sc where
  | lst (a : Addr)
  | tup (a : Addr)
  | txt (x : Str)
def Sc.at (K : PySem.W.Frag) (H : Hp) : Sc → List V → Prop
  | .lst a, xs => SqL K H a xs
  | .tup a, xs => SqT K H a xs
  | .txt x, xs => xs = x.cps.toList.map fun c => V.str ⟨#[c]⟩
def Sc.val : Sc → V
  | .lst a => .ref a
  | .tup a => .ref a
  | .txt x => .str x
/-- an address that is not the source's own -/
def Sc.off : Sc → Addr → Prop
  | .lst a, b => b ≠ a
  | .tup a, b => b ≠ a
  | .txt _, _ => True
/-- its iterator -/
def Sc.it (h : Heap) (j : Addr) (i : Nat) : Sc → Prop
  | .lst a => h.IsListIter j a i
  | .tup a => h.IsTupleIter j a i
  | .txt x => ∃ t, h.IsStrIter j (strIterType x) x t i
theorem Sc.obj {c : Sc} {h : Heap} {j : Addr} {i : Nat} (st : c.it h j i) : ∃ o, h.get? j = some o ∧ ∀ v, o.data ≠ .cell v := by
  cases c with
  | lst a =>
    obtain ⟨o, e, _, d⟩ := st
    exact ⟨o, e, fun v z => by rw [d] at z; cases z⟩
  | tup a =>
    obtain ⟨o, e, _, d⟩ := st
    exact ⟨o, e, fun v z => by rw [d] at z; cases z⟩
  | txt x =>
    obtain ⟨t, o, e, _, d⟩ := st
    exact ⟨o, e, fun v z => by rw [d] at z; cases z⟩
theorem Sc.stay {c : Sc} {h h' : Heap} {j : Addr} {i : Nat} (st : c.it h j i) (k : ∀ o, h.get? j = some o → h'.get? j = some o) : c.it h' j i := by
  cases c with
  | lst a =>
    obtain ⟨o, e, q⟩ := st
    exact ⟨o, k o e, q⟩
  | tup a =>
    obtain ⟨o, e, q⟩ := st
    exact ⟨o, k o e, q⟩
  | txt x =>
    obtain ⟨t, o, e, q⟩ := st
    exact ⟨t, o, k o e, q⟩
section
variable {X : Cx} {pins : List (Addr × Obj)} {σ : L2.St} {H : Hp} {s : Shared}
theorem Sc.draws (I : Inv X pins σ H s) (hh : X.A.handled = none) {c : Sc} {xs : List V} (h : c.at X.K H xs) {j : Addr} (o : c.off j) {i : Nat} (st : c.it s.heap j i) :
    ∃ (fp : List Addr) (P : Nat → Value → Prop) (S : Nat → Heap → Prop), Draws X.prog X.w X.A.in1 j (j :: fp) xs.length P S ∧ (∀ b, b ∈ fp → ¬ c.off b) ∧ S i s.heap ∧ (∀ n h, S n h → c.it h j n) ∧ ∀ n v x, P n v → xs[n]? = some x → RelV x v := by
  have h1 : X.A.in1.handled = none := hh
  cases c with
  | lst a =>
    obtain ⟨its, rv, p, _⟩ := I.list h
    have e : its.toArray.size = xs.length := by rw [List.size_toArray, rv.length]
    refine ⟨[a], _, _, e ▸ Draws.list h1 j a (fun z => o z.symm) its.toArray, fun b hb z => z (by simpa using hb), ⟨st, p.isList⟩, fun n h z => z.1, fun n v x hp hx => ?_⟩
    obtain ⟨u, hu, ru⟩ := rv.get hx
    have hp : its.toArray[n]? = some v := hp
    rw [List.getElem?_toArray, hu] at hp
    cases hp
    exact ru
  | tup a =>
    obtain ⟨its, rv, p, _⟩ := I.tuple h
    have e : its.toArray.size = xs.length := by rw [List.size_toArray, rv.length]
    refine ⟨[a], _, _, e ▸ Draws.tuple h1 j a (fun z => o z.symm) its.toArray, fun b hb z => z (by simpa using hb), ⟨st, p⟩, fun n h z => z.1, fun n v x hp hx => ?_⟩
    obtain ⟨u, hu, ru⟩ := rv.get hx
    have hp : its.toArray[n]? = some v := hp
    rw [List.getElem?_toArray, hu] at hp
    cases hp
    exact ru
  | txt x =>
    obtain ⟨t, st⟩ := st
    have h : xs = x.cps.toList.map fun c => V.str ⟨#[c]⟩ := h
    have e : x.cps.size = xs.length := by rw [h, List.length_map, Array.length_toList]
    refine ⟨[], _, _, e ▸ Draws.text h1 j x t, (fun b hb => by cases hb), st, fun n h z => ⟨t, z⟩, fun n v y hp hy => ?_⟩
    obtain ⟨c, u, hc, rfl⟩ := hp
    rw [h, List.getElem?_map, Array.getElem?_toList, hc] at hy
    cases hy
    exact ⟨u, rfl⟩
end
/-- pairs of two sources that stay -/
def ItC (K : PySem.W.Frag) (c d : Sc) (xs ys : List V) : It :=
  ⟨fun i H => c.at K H xs ∧ d.at K H ys ∧ i < min xs.length ys.length,
    fun i H v H' => ∃ T x y, v = .ref T ∧ H T = none ∧ H' = upd H T (.tup [x, y]) ∧ xs[i]? = some x ∧ ys[i]? = some y,
    fun i H => c.at K H xs ∧ d.at K H ys ∧ min xs.length ys.length ≤ i⟩
def ZipTn (N : Nat) (c d : Sc) (xs ys : List V) (i : Nat) (h : Heap) : Prop :=
  i ≤ min xs.length ys.length ∧ IsZip h (N + 4) (N + 2) (N + 3) .none ∧ IsTupOf2 h (N + 2) (.ref N) (.ref (N + 1)) ∧ (∃ x y, IsTupOf2 h (N + 3) x y) ∧ c.it h N i ∧ d.it h (N + 1) i
theorem five {N b : Addr} {p : Addr → Prop} (h : b ∈ [N + 4, N + 2, N + 3, N, N + 1]) (h0 : p (N + 4)) (h1 : p (N + 2)) (h2 : p (N + 3)) (h3 : p N) (h4 : p (N + 1)) : p b := by
  simp only [List.mem_cons, List.mem_nil_iff, or_false] at h
  rcases h with rfl | rfl | rfl | rfl | rfl <;> assumption
theorem ZipTn.lt {N : Nat} {c d : Sc} {xs ys : List V} {i : Nat} {h : Heap} (st : ZipTn N c d xs ys i h) : N + 4 < h.objs.size := Heap.lt_size st.2.1
theorem turn_zipC {P : Program} {w : World} {K : PySem.W.Frag} {elts : List Expr} {kk : Nat} {tpos : Pos} {N : Nat} {c d : Sc} {xs ys : List V} (oc : ∀ b : Nat, N ≤ b → c.off b) (od : ∀ b : Nat, N ≤ b → d.off b) :
    Turn P w K (.Tuple elts kk tpos) (ItC K c d xs ys) [N + 4, N + 2, N + 3, N, N + 1] (N + 4) (ZipTn N c d xs ys) where
  mem := by simp
  obj := fun i h st b hb => by
    obtain ⟨_, hz, hTI, ⟨x, y, hTO⟩, h1, h2⟩ := st
    refine five (p := fun b => ∃ o, h.get? b = some o ∧ ∀ v, o.data ≠ .cell v) hb ⟨_, hz, fun v q => nomatch q⟩ ⟨_, hTI, fun v q => nomatch q⟩ ⟨_, hTO, fun v q => nomatch q⟩ (Sc.obj h1) (Sc.obj h2)
  keep := fun i h h' st k => by
    obtain ⟨hn, hz, hTI, ⟨x, y, hTO⟩, h1, h2⟩ := st
    exact ⟨hn, k _ (by simp) _ hz, k _ (by simp) _ hTI, ⟨x, y, k _ (by simp) _ hTO⟩, Sc.stay h1 fun o q => k _ (by simp) o q, Sc.stay h2 fun o q => k _ (by simp) o q⟩
  item := by
    intro X hP hw hK hc i pins s σ H E I hf st hg
    subst hP hw hK
    have hlt := st.lt
    obtain ⟨hn, hz, hTI, hTO, h1, h2⟩ := st
    obtain ⟨a1, a2, hi⟩ := hg
    obtain ⟨f1, P1, S1, D1, m1, t1, b1, r1⟩ := Sc.draws I (I.ok.hd hc) a1 (oc _ (Nat.le_refl _)) h1
    obtain ⟨f2, P2, S2, D2, m2, t2, b2, r2⟩ := Sc.draws I (I.ok.hd hc) a2 (od _ (Nat.le_add_right _ _)) h2
    have l1 : ∀ b ∈ f1, b < N := fun b hb => Nat.lt_of_not_le fun z => m1 b hb (oc b z)
    have l2 : ∀ b ∈ f2, b < N := fun b hb => Nat.lt_of_not_le fun z => m2 b hb (od b z)
    have W := GoesN.zip2 (A := X.A) (elts := elts) (x1 := kk) (pos := tpos) (zip_sep2 (N := N) l1 l2) D1 D2
    refine W.goes i s _ E hi ⟨hz, hTI, hTO, t1, t2⟩ fun v h' tk hY st' hk _ => ?_
    obtain ⟨T, u1, u2, rfl, hT, p1, p2, tup⟩ := hY
    have hx : xs[i]? = some (xs[i]'(by omega)) := List.getElem?_eq_getElem (by omega)
    have hy : ys[i]? = some (ys[i]'(by omega)) := List.getElem?_eq_getElem (by omega)
    generalize xs[i]'(by omega) = x at hx
    generalize ys[i]'(by omega) = y at hy
    have new : ObjOk X.prog X.w (upd H T (.tup [x, y])) h' T (.tup [x, y]) := ⟨by show 2 ≤ sizeLine; decide, [u1, u2], .cons (r1 i u1 x p1 hx) (.cons (r2 i u2 y p2 hy) .nil), tup⟩
    have I1 : Inv X pins σ (upd H T (.tup [x, y])) { s with heap := h', toks := tk } :=
      I.turnedNew (t' := tk) (ch := [N + 4, N + 2, N + 3, N, N + 1]) (fun b o hb q => hk b o (fun z => hb (by simp only [List.mem_cons, List.mem_nil_iff, or_false] at z ⊢; rcases z with z | z | z | z <;> simp [z])) q) hf hT new
    refine ⟨.ref T, _, I1, rfl, ⟨T, x, y, rfl, I.hok.fresh hT, rfl, hx, hy⟩, ⟨by omega, st'.1, st'.2.1, st'.2.2.1, b1 _ _ st'.2.2.2.1, b2 _ _ st'.2.2.2.2⟩, fun b hb => ?_⟩
    have hbT : b ≠ T := by
      have : b < T := five (p := fun b => b < T) hb (Nat.lt_of_lt_of_le hlt hT) (Nat.lt_of_lt_of_le (by omega) hT) (Nat.lt_of_lt_of_le (by omega) hT) (Nat.lt_of_lt_of_le (by omega) hT) (Nat.lt_of_lt_of_le (by omega) hT)
      exact Nat.ne_of_lt this
    rw [upd_ne hbT]
    exact (hf b hb).1
  done := by
    intro X hP hw hK hc i pins s σ H E I hf st hg
    subst hP hw hK
    obtain ⟨hn, hz, hTI, hTO, h1, h2⟩ := st
    obtain ⟨a1, a2, hi⟩ := hg
    have hin : i = min xs.length ys.length := Nat.le_antisymm hn hi
    subst hin
    obtain ⟨f1, P1, S1, D1, m1, t1, b1, r1⟩ := Sc.draws I (I.ok.hd hc) a1 (oc _ (Nat.le_refl _)) h1
    obtain ⟨f2, P2, S2, D2, m2, t2, b2, r2⟩ := Sc.draws I (I.ok.hd hc) a2 (od _ (Nat.le_add_right _ _)) h2
    have l1 : ∀ b ∈ f1, b < N := fun b hb => Nat.lt_of_not_le fun z => m1 b hb (oc b z)
    have l2 : ∀ b ∈ f2, b < N := fun b hb => Nat.lt_of_not_le fun z => m2 b hb (od b z)
    have W := GoesN.zip2 (A := X.A) (elts := elts) (x1 := kk) (pos := tpos) (zip_sep2 (N := N) l1 l2) D1 D2
    refine W.stops s _ E ⟨hz, hTI, hTO, t1, t2⟩ fun h' tk hk _ => ?_
    exact I.turnedL (t' := tk) (ch := [N + 4, N + 2, N + 3, N, N + 1]) (fun b o hb q => hk b o (fun z => hb (by simp only [List.mem_cons, List.mem_nil_iff, or_false] at z ⊢; rcases z with z | z | z | z <;> simp [z])) q) hf
  self := fun A i s Q E st h => wpAny_pyIter_zip st.2.1 h
section
variable {X : Cx} {K : PySem.W.Frag}
def iZipC (K : PySem.W.Frag) (ta : TA) : TI := fun σ H R => ta σ H fun vs H1 => ∃ c d xs ys, vs = [c.val, d.val] ∧ c.at K H1 xs ∧ d.at K H1 ys ∧ R (ItC K c d xs ys) H1
theorem Sc.begins {pins : List (Addr × Obj)} {σ : L2.St} {H : Hp} {s : Shared} (I : Inv X pins σ H s) {c : Sc} {xs : List V} (h : c.at X.K H xs) {u : Value} (r : RelV c.val u) :
    ∃ (o : Obj) (G : Heap → Prop), Begins u o G ∧ G s.heap ∧ (∀ b : Nat, s.heap.objs.size ≤ b → c.off b) ∧ ∀ (h' : Heap) (j : Addr), h'.get? j = some o → c.it h' j 0 := by
  cases c with
  | lst a =>
    obtain rfl : u = Value.ref a := r
    obtain ⟨its, rv, p, _⟩ := I.list h
    exact ⟨_, _, begins_list a its.toArray, p.isList, fun b hb z => absurd (z ▸ p.lt) (Nat.not_lt_of_le hb), fun h' j e => ⟨_, e, rfl, rfl⟩⟩
  | tup a =>
    obtain rfl : u = Value.ref a := r
    obtain ⟨its, rv, p, _⟩ := I.tuple h
    have hl : a < s.heap.objs.size := by obtain ⟨o, e, _⟩ := p; exact Heap.lt_size e
    exact ⟨_, _, begins_tuple a its.toArray, p, fun b hb z => absurd (z ▸ hl) (Nat.not_lt_of_le hb), fun h' j e => ⟨_, e, rfl, rfl⟩⟩
  | txt x =>
    obtain ⟨t, rfl⟩ := (show ∃ t, u = Value.str x t from r)
    exact ⟨_, _, begins_text x t, trivial, fun b hb => trivial, fun h' j e => ⟨t, _, e, rfl, rfl⟩⟩
theorem pi_zipC {e e2 : Expr} {ta : TA} {p pos tpos : Pos} {elts : List Expr} {kk : Nat} (hg : Gl X "zip") (hm : X.mg "zip" = none) (ha : PA X [e, e2] ta)
    (hs : starEach [e, e2] X.env = (false, eval e X.env) :: starEach [e2] X.env := by rfl) (hpl : (backTo pos (starEach [e2] X.env)).any (·.1) = false := by rfl) :
    PI X (.Tuple elts kk tpos) (.Call (.Name "zip" p) [e, e2] [] pos) (iZipC X.K ta) := by
  constructor
  intro pins s σ H R I h
  refine Call_ (ld_blt I hg hm PyProof.Rows.boot_zip (PyProof.Rows.callWith_type1 ?_ hs hpl))
  apply thn (ha.run pos pins s σ H _ I h)
  rintro us s1 ⟨vs, H1, I1, r1, c, d, xs, ys, rfl, h1, h2, q⟩
  cases r1 with
  | cons ra rb =>
    cases rb with
    | cons rb rc =>
      cases rc
      obtain ⟨o1, G1, B1, g1, f1, j1⟩ := Sc.begins I1 h1 ra
      obtain ⟨o2, G2, B2, g2, f2, j2⟩ := Sc.begins I1 h2 rb
      apply zip_begins2 B1 B2 g1 g2
      intro h' hz hTI hTO e1 e2 hsz hk
      apply wpAny_pyIter_zip hz
      have I2 : Inv X pins σ H1 { s1 with heap := h' } := I1.kept (t' := s1.toks) hk
      have fp : ∀ c : Nat, s1.heap.objs.size ≤ c → FpOk X pins H1 c := fun c hc => I1.fpOk hc (I1.hok.fresh hc)
      refine ⟨_, _, _, _, H1, rfl, I2, turn_zipC f1 f2, ⟨Nat.zero_le _, hz, hTI, ⟨_, _, hTO⟩, j1 _ _ e1, j2 _ _ e2⟩, fun b hb => ?_, q⟩
      exact five (p := fun b => FpOk X pins H1 b) hb (fp _ (Nat.le_add_right _ _)) (fp _ (Nat.le_add_right _ _)) (fp _ (Nat.le_add_right _ _)) (fp _ (Nat.le_refl _)) (fp _ (Nat.le_add_right _ _))
end
/-! ### the same over data -/
def itemsD : PyData → Option (List PyData)
  | .list xs => some xs
  | .tuple xs => some xs
  | .str x => some ((signs x).map PyData.str)
  | _ => none
theorem items_sc {K : PySem.W.Frag} {Hk : Hp} {v : V} {x : PyData} {ds : List PyData} (h : Dv K Hk v x) (e : itemsD x = some ds) :
    ∃ c vs, v = Sc.val c ∧ (∀ Hk' H', Same Hk Hk' → Same Hk' H' → c.at K H' vs) ∧ DvAll K Hk vs ds := by
  cases h with
  | lst g1 g2 =>
    cases e
    exact ⟨.lst _, _, rfl, fun Hk' H' s1 s2 => SqL.of (s2 _ _ (s1 _ _ g1)), g2⟩
  | tup g1 g2 =>
    cases e
    exact ⟨.tup _, _, rfl, fun Hk' H' s1 s2 => same_tup s2 (same_tup s1 g1), g2⟩
  | str x =>
    cases e
    refine ⟨.txt x, _, rfl, fun _ _ _ _ => rfl, ?_⟩
    unfold signs
    rw [List.map_map]
    generalize x.cps.toList = l
    induction l with
    | nil => exact .nil
    | cons c l ih => exact .cons (.str _) ih
  | _ => cases e
def zipB (x y : PyData) : Option (List PyData) := (itemsD x).bind fun xs => (itemsD y).map fun ys => zipD xs ys
def mZipB (ms : MA) : MI := fun env => (ms env).bind fun p => match p.1 with
  | [.dat x, .dat y] => (zipB x y).map fun ds => (ds, p.2)
  | _ => none
section
variable {X : Cx} {K : PySem.W.Frag}
theorem zipB_run {ms : MA} {σ : L2.St} {H : Hp} {R : It → Hp → Prop} (h : tI K (mZipB ms) σ H R) : iZipC K (tA K ms) σ H R := by
  obtain ⟨B, env, Hk, ds, env', R0, hm, k⟩ := h
  obtain ⟨⟨rs, e1⟩, h1, hm⟩ := Option.bind_eq_some_iff.mp hm
  refine ⟨B, env, Hk, rs, e1, R0, h1, fun vs Hk1 H1 R1 s1 o1 => ?_⟩
  split at hm
  · rename_i x y he
    obtain ⟨zs, hz, hm⟩ := Option.map_eq_some_iff.mp hm
    cases hm
    have he : rs = [.dat x, .dat y] := he
    subst he
    cases o1 with
    | cons o1 o2 =>
      cases o2 with
      | cons o2 o3 =>
        cases o3
        obtain ⟨xs, hx, hz⟩ := Option.bind_eq_some_iff.mp hz
        obtain ⟨ys, hy, rfl⟩ := Option.map_eq_some_iff.mp hz
        obtain ⟨c, us, rfl, q1, g2⟩ := items_sc o1 hx
        obtain ⟨d, ws, rfl, q2, g4⟩ := items_sc o2 hy
        refine ⟨c, d, us, ws, rfl, q1 _ _ (.refl _) R1.ex, q2 _ _ (.refl _) R1.ex, k _ Hk1 H1 R1 s1 ?_⟩
        intro Hk2 H2 s2 e2 i
        have hlen : (zipD xs ys).length = min us.length ws.length := by rw [zipD_len, g2.len, g4.len]
        refine ⟨fun dd hi => ?_, fun hl => ⟨q1 _ _ s2 e2, q2 _ _ s2 e2, by omega⟩⟩
        have hlt : i < (zipD xs ys).length := (List.getElem?_eq_some_iff.mp hi).1
        obtain ⟨a, b, z1, z2, rfl⟩ := zipD_get _ _ i dd hi
        obtain ⟨v, z3, z4⟩ := g2.get i a z1
        obtain ⟨u, z5, z6⟩ := g4.get i b z2
        refine ⟨⟨q1 _ _ s2 e2, q2 _ _ s2 e2, by omega⟩, fun z H' hz => ?_⟩
        obtain ⟨T, v', u', rfl, hT, rfl, w1, w2⟩ := hz
        rw [z3] at w1
        rw [z5] at w2
        cases w1
        cases w2
        exact .inr ⟨T, _, _, rfl, rfl, hT, rfl, .cons (dv_mono s2 _ _ z4) (.cons (dv_mono s2 _ _ z6) .nil)⟩
  · cases hm
theorem vi_zipB {e e2 : Expr} {ms : MA} {p pos tpos : Pos} {elts : List Expr} {kk : Nat} (hm : X.mg "zip" = none) (ha : VA X [e, e2] ms) (hg : Gl X "zip" := by rfl)
    (hs : starEach [e, e2] X.env = (false, eval e X.env) :: starEach [e2] X.env := by rfl) (hpl : (backTo pos (starEach [e2] X.env)).any (·.1) = false := by rfl) :
    VI X (.Tuple elts kk tpos) (.Call (.Name "zip" p) [e, e2] [] pos) (mZipB ms) := (pi_zipC hg hm ha hs hpl).imp fun _ _ _ => zipB_run
end
section
variable {β γ : Type} {env e : Sl} {R : Option β} {ms : MA} {K : List PyData → Sl → Option β}
def zipBK (rs : List Res) (e : Sl) (K : List PyData → Sl → Option β) : Option β := match rs with
  | [.dat x, .dat y] => (zipB x y).bind fun l => K l e
  | _ => none
theorem c_zipB (k : bnd (ms env) (fun rs e => zipBK rs e K) = R) : bnd (mZipB ms env) K = R := by
  rw [← k]; unfold mZipB bnd zipBK
  cases ms env with
  | none => rfl
  | some p =>
    cases p with
    | mk rs e =>
      simp only [Option.bind_some]
      rcases rs with _ | ⟨r1, _ | ⟨r2, _ | ⟨r3, rs⟩⟩⟩
      · rfl
      · cases r1 <;> rfl
      · cases r1 with
        | dat x =>
          cases r2 with
          | dat y =>
            show ((zipB x y).map fun ds => (ds, e)).bind (fun p => K p.1 p.2) = (zipB x y).bind fun l => K l e
            cases zipB x y <;> rfl
          | _ => rfl
        | _ => rfl
      · cases r1 with
        | dat x => cases r2 <;> rfl
        | _ => rfl
def pZipB (x y : PyData) : Option (List (PyData × PyData)) := (itemsD x).bind fun xs => (itemsD y).map fun ys => xs.zip ys
theorem c_zipBK {x y : PyData} {rs : List Res} {k : List (PyData × PyData) → Option γ} {h : γ → Option β} (hr : rs = [.dat x, .dat y]) (p : ∀ l, K (l.map (eT2 eD eD)) e = (k l).bind h) : zipBK rs e K = ((pZipB x y).bind k).bind h := by
  subst hr
  show (zipB x y).bind (fun l => K l e) = _
  unfold zipB pZipB
  cases itemsD x with
  | none => rfl
  | some xs =>
    cases itemsD y with
    | none => rfl
    | some ys =>
      show K (zipD xs ys) e = (k (xs.zip ys)).bind h
      rw [zipD_zip]
      exact p _
theorem c_zipBT {α δ : Type} {x y : PyData} {rs : List Res} {l : List α} {m : List δ} {ea : α → PyData} {eb : δ → PyData} (hr : rs = [.dat x, .dat y]) (h1 : itemsD x = some (l.map ea)) (h2 : itemsD y = some (m.map eb)) (p : K ((l.zip m).map (eT2 ea eb)) e = R) : zipBK rs e K = R := by
  subst hr
  show (zipB x y).bind (fun l => K l e) = _
  unfold zipB
  rw [h1, h2]
  show K (zipD (l.map ea) (m.map eb)) e = _
  rw [zip_map]
  exact p
end
end Cm
/-! d.update(e), e a dict -/
namespace Cm
open PySem PySem.Spec PyProof.Rows L2
section
variable {X : Cx} {pins : List (Addr × Obj)} {σ : L2.St} {H : Hp} {s : Shared} {A : Around} {E : Value → Shared → Prop} {a b : Addr} {kvs more : List (Key × V)}
theorem d_upd {Q : Value → Shared → Prop} (I : Inv X pins σ H s) (e : H a = some (.dK kvs)) (f : Rd H b (.dK more)) (ne : a ≠ b) (z : kvs.length + more.length ≤ sizeLine)
    (h : ∀ s', Inv X pins σ (upd H a (.dK (mergeK kvs more))) s' → Q .none s') : wpAny (model X.prog X.w) A (call (.builtin "dict.update") [.ref a, .ref b]) Q E s := by
  obtain ⟨_, hd, vs, r1, d1⟩ := dk_of I.hok e
  obtain ⟨_, hd2, ws, r2, d2⟩ := dk_rd I.hok f
  apply call_meetsIn PySem.F.slot_dict_update d1.typeIs PySem.F.entry_dict_update (PySem.F.args_dict_update_2 _ _) (meets_dict_update (mixKind X.prog X.w) a b ne hd2)
  refine ⟨vs, ws, d1, d2, by rw [← r1.length, ← r2.length]; exact z, fun h' d3 _ hs => h _ ?_⟩
  have he : ∃ q, h'.get? a = some q := by
    obtain ⟨q, _, _, hq, _⟩ := d3
    exact ⟨q, hq⟩
  exact d_write I (by rw [e]; trivial) hs he (dk_new (Nat.le_trans (length_mergeK more kvs) z) hd (KV.merge r2 r1) d3)
end
def tDUpd (td te : TE) : TE := fun σ H Q => td σ H fun x H1 => ∃ a, x = .ref a ∧ IsD H1 a ∧ te σ H1 fun y H2 => ∃ b kvs more, y = .ref b ∧ H2 a = some (.dK kvs) ∧ Rd H2 b (.dK more) ∧ a ≠ b ∧ kvs.length + more.length ≤ sizeLine ∧
  Q .non (upd H2 a (.dK (mergeK kvs more)))
section
variable {X : Cx} {K : PySem.W.Frag} {B : Fb} {env : Sl} {σ : L2.St} {Hk H : Hp}
theorem pe_dupd {o e : Expr} {td te : TE} {apos cpos : Pos} (ho : PE X o td) (he : PE X e te) (m : M1 X o "update" apos e cpos) : PE X (.Call (.Attribute o "update" apos) [e] [] cpos) (tDUpd td te) := by
  constructor
  intro pins s σ H Q I h
  apply wpAny_Call_method m.base m.few m.line PySem.F.plainAttrs_dict PySem.F.slot_dict_update PySem.F.type_dict_update
  apply thn (ho.run pins s σ H _ I h)
  rintro u s1 ⟨x, H1, I1, rx, a, rfl, d, q1⟩
  obtain rfl : u = Value.ref a := rx
  obtain ⟨t1, t2, _⟩ := isD_at I1 d
  refine ⟨t1, t2, ?_⟩
  rw [m.trees]
  apply Calls.callWith_builtin rfl
  apply Calls.evalArgs_plain
  apply Calls.spliced_cons
  apply thn (he.run pins s1 σ H1 _ I1 q1)
  rintro v s2 ⟨y, H2, I2, ry, b, kvs, more, rfl, e1, e2, ne, z, q2⟩
  obtain rfl : v = Value.ref b := ry
  apply Calls.spliced_nil
  exact d_upd I2 e1 e2 ne z fun s3 I3 => ⟨.non, _, I3, rfl, q2⟩
def mDUpd (i : Nat) (me : ME) : ME := fun env => (dctAt env i).bind fun _ => (mFrz me env).bind fun p => (dctAt p.2 i).bind fun q => match p.1 with
  | .dat (.dict es) => if q.2.length + es.length ≤ 100000 then (dMerge q.2 es).map fun l => (.dat .none, p.2.set i (q.1.put (.dct l))) else none
  | _ => none
theorem dupd_run {i : Nat} {me : ME} {Q : VK} (h : tE K (mDUpd i me) σ H Q) : tDUpd (tVar i) (tE K (mFrz me)) σ H Q := by
  obtain ⟨B, env, Hk, res, env', R, hm, k⟩ := h
  obtain ⟨⟨s0, ds0⟩, h0, hm⟩ := Option.bind_eq_some_iff.mp hm
  obtain ⟨⟨r, e1⟩, h1, hm⟩ := Option.bind_eq_some_iff.mp hm
  obtain ⟨⟨s, es⟩, h2, hm⟩ := Option.bind_eq_some_iff.mp hm
  obtain ⟨a, vs0, g1, g2, g3, g4, g5⟩ := R.dctAt h0
  refine ⟨_, g3, a, rfl, .inl ⟨_, .inl g4⟩, B, env, Hk, r, e1, R, h1, fun w Hk1 H1 R1 s1 o1 => ?_⟩
  split at hm
  · rename_i ms hr
    have hr : r = .dat (.dict ms) := hr
    subst hr
    split at hm
    · rename_i hz
      obtain ⟨l, h3, hm⟩ := Option.map_eq_some_iff.mp hm
      cases hm
      obtain ⟨a', kvs, q1, q2, q3, q4, q5⟩ := R1.dctAt h2
      rw [g3] at q3
      cases q3
      have o1 : Dv K Hk1 w (.dict ms) := o1
      cases o1 with
      | dct w1 w2 =>
        rename_i b more
        have hk : Hk1 a = none := by
          obtain ⟨a2, z1, z2, _⟩ := R1.mutAt q1 q2
          rw [g3] at z1
          cases z1
          exact z2
        have ne : a ≠ b := fun z => by
          subst z
          rcases w1 with w1 | ⟨_, w1⟩
          · rw [hk] at w1
            cases w1
          · rw [hk] at w1
            cases w1
        refine ⟨b, kvs, more, rfl, q4, same_rd R1.ex w1, ne, ?_, k _ Hk1 _ (R1.change q1 q2 g3 ⟨_, upd_same, dvKv_merge w2 q5 h3⟩) s1 .non⟩
        rw [dvKv_len q5, dvKv_len w2]
        exact Nat.le_trans hz (by decide)
    · cases hm
  · cases hm
theorem ve_dupd {i : Nat} {x : Str} {e : Expr} {me : ME} {p apos cpos : Pos} (he : VE X e me) (hN : X.N[i]? = some x := by rfl) (hv : Vis X.env.scope x := by first | exact Or.inl rfl | exact Or.inr (Or.inl rfl) | exact Or.inr (Or.inr rfl)) (hd : (x == ("__debug__" : Str)) = false := by decide) (hcd : (x == ("__classdict__" : Str)) = false := by decide)
    (hb : attributeBase (.Name x p) "update" X.env (eval (.Name x p) X.env) = eval (.Name x p) X.env := by rfl)
    (hf : ((backTo cpos (starEach [e] X.env)).all (fun x => !x.1) && (backToKw cpos (keywordEach [] X.env)).all (fun x => x.1.isSome) && decide (([e] : List Expr).length + ([] : List Keyword).length + (if ([] : List Keyword).isEmpty then 0 else 1) < 30)) = true := by rfl)
    (hl : (apos.endLine == cpos.line) = true := by rfl) (ht : backTo cpos (starEach [e] X.env) = [(false, eval e X.env)] := by rfl) : VE X (.Call (.Attribute (.Name x p) "update" apos) [e] [] cpos) (mDUpd i me) :=
  (pe_dupd (pe_var hN hv hd hcd) (ve_frz he) ⟨hb, hf, hl, ht⟩).imp fun _ _ _ => dupd_run
end
/-! ### the plain layer -/
section
variable {β : Type} {i : Nat} {env e : Sl} {R : Option β} {me : ME} {K : Res → Sl → Option β}
def dupdK (i : Nat) (r : Res) (e : Sl) (K : Res → Sl → Option β) : Option β := (dctAt e i).bind fun q => match r with
  | .dat (.dict es) => if q.2.length + es.length ≤ 100000 then (dMerge q.2 es).bind fun l => K (.dat .none) (e.set i (q.1.put (.dct l))) else none
  | _ => none
theorem c_dupd {q : Slot × List (PyData × PyData)} (h : dctAt env i = some q) (k : bnd (mFrz me env) (fun r e => dupdK i r e K) = R) : bnd (mDUpd i me env) K = R := by
  rw [← k]; unfold mDUpd bnd
  rw [h]
  simp only [Option.bind_some]
  cases mFrz me env with
  | none => rfl
  | some p =>
    simp only [Option.bind_some, dupdK]
    cases dctAt p.2 i with
    | none => rfl
    | some q =>
      simp only [Option.bind_some]
      split
      · split
        · cases dMerge q.2 _ <;> rfl
        · rfl
      · rfl
/-- both of one make, few entries -/
theorem c_dupdK {α τ γ : Type} [DecidableEq α] {ek : α → PyData} {ev : τ → PyData} {kk : α → Key} {k : List (α × τ) → Option γ} {h : γ → Option β} (E : KeyE ek kk) (l m : List (α × τ)) {s : Slot} (Ev : List (α × τ) → Sl)
    (h1 : dctAt e i = some (s, l.map (eP ek ev))) (hE : ∀ l', e.set i (s.put (.dct (l'.map (eP ek ev)))) = Ev l') (p : ∀ z, K (.dat .none) (Ev z) = (k z).bind h) :
    dupdK i (.dat (.dict (m.map (eP ek ev)))) e K = ((if l.length + m.length ≤ 100000 then some (mergeL l m) else none).bind k).bind h := by
  unfold dupdK
  rw [h1]
  simp only [Option.bind_some, List.length_map]
  split
  · rw [dMerge_map E]
    simp only [Option.bind_some, hE]
    exact p _
  · rfl
end
/-! d.get(k) of a thing of any make, the keys texts -/
def pGetSN {τ : Type} (l : List (Str × τ)) (d : PyData) : Option (Option τ) := match d with
  | .str x => some (look l x)
  | .int _ => some none
  | _ => none
theorem x_getSN {τ : Type} {ev : τ → PyData} {l : List (Str × τ)} {d : PyData} : ((keyOf d).map fun k => (dGet (l.map (eP eS ev)) k).getD .none) = (pGetSN l d).map (fun z => eO ev z) := by
  cases d with
  | str x =>
    show some ((dGet (l.map (eP eS ev)) (.inr x)).getD .none) = some (eO ev (look l x))
    have : dGet (l.map (eP eS ev)) (.inr x) = (look l x).map ev := dGet_map keyE_str x l
    rw [this]
    cases look l x <;> rfl
  | int i =>
    show some ((dGet (l.map (eP eS ev)) (.inl i)).getD .none) = some (eO ev none)
    rw [dGet_no]
    rfl
  | _ => rfl
/-! joins of things of any make -/
def pJoinD (a : Str) (l : List PyData) : Option Str := (strsD l).bind fun ys => pJoin a ys
theorem x_joinD {a : Str} {l : List PyData} : gJoin (.str a) [.list (l.map eD)] = (pJoinD a l).map (fun z => .dat (.str z)) := by
  rw [map_eD]
  unfold pJoinD
  show (strsD l).bind _ = _
  cases strsD l with
  | none => rfl
  | some ys =>
    simp only [Option.bind_some, pJoin]
    split <;> rfl
/-! long tuples -/
section
variable {α β γ δ ε ζ η θ ι : Type}
abbrev eT8 (a : α → PyData) (b : β → PyData) (c : γ → PyData) (d : δ → PyData) (e : ε → PyData) (f : ζ → PyData) (g : η → PyData) (h : θ → PyData) : α × β × γ × δ × ε × ζ × η × θ → PyData :=
  fun p => .tuple [a p.1, b p.2.1, c p.2.2.1, d p.2.2.2.1, e p.2.2.2.2.1, f p.2.2.2.2.2.1, g p.2.2.2.2.2.2.1, h p.2.2.2.2.2.2.2]
abbrev eT9 (a : α → PyData) (b : β → PyData) (c : γ → PyData) (d : δ → PyData) (e : ε → PyData) (f : ζ → PyData) (g : η → PyData) (h : θ → PyData) (i : ι → PyData) : α × β × γ × δ × ε × ζ × η × θ × ι → PyData :=
  fun p => .tuple [a p.1, b p.2.1, c p.2.2.1, d p.2.2.2.1, e p.2.2.2.2.1, f p.2.2.2.2.2.1, g p.2.2.2.2.2.2.1, h p.2.2.2.2.2.2.2.1, i p.2.2.2.2.2.2.2.2]
end
/-! tuples put together, the first one may be empty -/
section
variable {K : PySem.W.Frag}
def gCatA : PyData → PyData → Option Res
  | .tuple xs, .tuple ys => if xs.length + ys.length ≤ 100000 then some (.dat (.tuple (xs ++ ys))) else none
  | _, _ => none
theorem od_catA : OpD K (rCatA K) gCatA := by
  intro Hk H x y dx dy res Q e vx vy h q
  unfold gCatA at h
  split at h
  · rename_i xs ys
    split at h
    · rename_i hz
      cases h
      obtain ⟨a, vs, rfl, h1, h2⟩ := vx.tup e
      obtain ⟨b, ws, rfl, h3, h4⟩ := vy.tup e
      refine ⟨a, b, vs, ws, rfl, rfl, h1, h3, by rw [h2.len, h4.len]; exact sz_of hz, fun hw => ?_, fun _ hw => ?_, fun _ _ p hp => ?_⟩
      · subst hw
        cases h2
        rw [List.nil_append] at q
        refine q _ _ (.inl ⟨rfl, ?_⟩)
        rcases vy with vy | ⟨_, c, _, z, _⟩
        · exact vy
        · cases c <;> cases z
      · subst hw
        cases h4
        rw [List.append_nil] at q
        refine q _ _ (.inl ⟨rfl, ?_⟩)
        rcases vx with vx | ⟨_, c, _, z, _⟩
        · exact vx
        · cases c <;> cases z
      · exact q _ _ (.inr ⟨p, _, _, rfl, rfl, hp, rfl, h2.append h4⟩)
    · cases h
  · cases h
end
def pCatA (a b : PyData) : Option PyData := match a, b with
  | .tuple xs, .tuple ys => if xs.length + ys.length ≤ 100000 then some (.tuple (xs ++ ys)) else none
  | _, _ => none
theorem x_catA {a b : PyData} : gCatA a b = (pCatA a b).map .dat := by
  cases a <;> cases b <;> first | rfl | skip
  simp only [gCatA, pCatA]
  split <;> rfl
/-! // by a great divisor; slices of a list of any make -/
section
variable {K : PySem.W.Frag}
def gDivW : PyData → PyData → Option Res
  | .int i, .int j => if 0 < j ∧ j.natAbs < 2 ^ 200 then some (.dat (.int (i / j))) else none
  | _, _ => none
theorem od_divW : OpD K (rI CDivW (fun i j => .int (i / j))) gDivW := by
  intro Hk H x y dx dy res Q e vx vy h q
  unfold gDivW at h
  split at h
  · split at h
    · rename_i hz
      cases h
      exact ⟨_, _, vx.int, vy.int, wide_div hz.1 hz.2 (by omega) (by omega), q _ _ (.inl ⟨rfl, .int _⟩)⟩
    · cases h
  · cases h
end
def pDivW (a b : PyData) : Option Int := match a, b with
  | .int i, .int j => if 0 < j ∧ j.natAbs < 2 ^ 200 then some (i / j) else none
  | _, _ => none
theorem x_divW {a b : PyData} : gDivW a b = (pDivW a b).map (fun z => .dat (.int z)) := by
  cases a <;> cases b <;> first | rfl | skip
  simp only [gDivW, pDivW]
  split <;> rfl
def pSlDL (d : PyData) (lo hi : Option Int) : Option (List PyData) := match d with
  | .list ds => some (cutD ds lo hi)
  | _ => none
theorem x_slDL {d : PyData} {lo hi : Option Int} : gSlL d lo hi = (pSlDL d lo hi).map (fun l => .new (.lst (l.map eD))) := by
  cases d with
  | list ds =>
    show some (Res.new (.lst (cutD ds lo hi))) = some (Res.new (.lst ((cutD ds lo hi).map eD)))
    rw [map_eD]
  | _ => rfl
end Cm
namespace Cm
open PySem L2
/-! ### the store: how it changes -/
def stoPut (env : Sl) (M : List MC) : Sl := env.set (env.length - 1) (.sto M)
section
variable {X : Cx} {K : PySem.W.Frag} {B : Fb} {env env' : Sl} {σ : L2.St} {Hk Hk' : Kn} {H H' : Hp} {M : List MC}
theorem HasSto.lt (h : HasSto env M) : env.length - 1 < env.length := (List.getElem?_eq_some_iff.mp h).1
theorem HasSto.put (h : HasSto env M) (M' : List MC) : HasSto (stoPut env M') M' := by
  unfold HasSto stoPut
  rw [List.length_set, List.getElem?_set_self h.lt]
theorem HasSto.sto (h : HasSto env M) : sto env = M := by
  unfold Cm.sto HasSto at *
  rw [h]
theorem hasSto_of {n : Nat} {c : MC} (h : (sto env)[n]? = some c) : HasSto env (sto env) := by
  unfold Cm.sto HasSto at *
  split at h
  · assumption
  · simp at h
theorem HasSto.uniq {M' : List MC} (h : HasSto env M) (g : HasSto env M') : M = M' := by
  unfold HasSto at *
  rw [h] at g
  exact Slot.sto.inj (Option.some.inj g)
theorem HasSto.set {i : Nat} {s : Slot} (h : HasSto env M) (hi : i ≠ env.length - 1) : HasSto (env.set i s) M := by
  unfold HasSto at *
  rw [List.length_set, List.getElem?_set_ne hi]
  exact h
theorem HasSto.ne {i : Nat} {s : Slot} (h : HasSto env M) (hs : env[i]? = some s) (hm : ∀ M, s ≠ .sto M) : i ≠ env.length - 1 := fun e => by
  unfold HasSto at h
  rw [e, h] at hs
  exact hm M (Option.some.inj hs).symm
/-- the store put otherwise, all else as it is -/
theorem Rel.stoAs (R : Rel K B env σ Hk H) (hS : HasSto env M) {M' : List MC} (S' : StoOk K B Hk H M') : Rel K B (stoPut env M') σ Hk H where
  ex := R.ex
  kn := R.kn
  fr := R.fr
  kp := R.kp
  oin := R.oin
  o0 := R.o0
  len := by
    unfold stoPut
    rw [List.length_set]
    exact R.len
  slot := fun j t hj => by
    rcases set_get hj with ⟨rfl, rfl⟩ | ⟨hne, hj'⟩
    · obtain ⟨o, h1, _⟩ := R.slot _ _ hS
      exact ⟨o, h1, trivial⟩
    · exact R.slot j t hj'
  sep := fun j k s t b hj hk ms mt g1 g2 => by
    rcases set_get hj with ⟨rfl, rfl⟩ | ⟨_, hj⟩
    · cases ms
    · rcases set_get hk with ⟨rfl, rfl⟩ | ⟨_, hk⟩
      · cases mt
      · exact R.sep j k s t b hj hk ms mt g1 g2
  sok := fun M1 h => by rw [h.uniq (hS.put M')]; exact S'
  pin := R.pin
  psep := fun j s a n hj ms g => by
    rcases set_get hj with ⟨rfl, rfl⟩ | ⟨_, hj⟩
    · cases ms
    · exact R.psep j s a n hj ms g
/-- a cell is changed in place -/
theorem Rel.stoChange (R : Rel K B env σ Hk H) (hS : HasSto env M) {n : Nat} {c c' : MC} {a : Addr} {o' : HO} (hc : M[n]? = some c) (hl : c.live) (hl' : c'.live) (ha : Hk.P n = some a) (h3 : CellM K Hk (upd H a o') a c') :
    Rel K B (stoPut env (M.set n c')) σ Hk (upd H a o') := by
  have S := R.sok M hS
  obtain ⟨a', g1, g2, g3⟩ := S.cel n c hc
  rw [ha] at g1
  cases g1
  have hk := g3 hl
  obtain ⟨u, hu, hx⟩ := g2.there hl
  have h0 : B.H0 a = none ∨ B.io a := (R.pin n a ha).2 hk
  have R1 : Rel K B (env.set (env.length - 1) .no) σ Hk (upd H a o') := by
    have R0 : Rel K B (env.set (env.length - 1) .no) σ Hk H := R.less (fun z => z) (fun M z => by cases z) fun _ _ => trivial
    refine ⟨?_, R0.kn, R0.fr, ?_, ?_, R0.o0, R0.len, ?_, R0.sep, fun M1 h => ?_, fun m b h => ⟨?_, (R0.pin m b h).2⟩, R0.psep⟩
    · intro b x e
      have hb : b ≠ a := fun z => by rw [z, hk] at e; cases e
      rw [upd_ne hb]
      exact R.ex _ _ e
    · intro b x e hO
      have hb : b ≠ a := fun z => by
        subst z
        rcases h0 with z | z
        · rw [z] at e; cases e
        · exact hO z
      rw [upd_ne hb]
      exact R.kp b x e hO
    · intro b hb
      refine ⟨?_, (R.oin b hb).2⟩
      by_cases e : b = a
      · rw [e, upd_same]
        exact fun z => nomatch z
      · rw [upd_ne e]
        exact (R.oin b hb).1
    · intro j t hj
      obtain ⟨o, q1, q2⟩ := R0.slot j t hj
      refine ⟨o, q1, ?_⟩
      cases t with
      | own c =>
        obtain ⟨b, e1, z1, z2, z3⟩ := q2
        subst e1
        have ne : b ≠ a := fun e => R0.psep j _ b n hj trivial q1 (by rw [e]; exact ha)
        exact ⟨b, rfl, z1, z2, z3.mono (Same.refl _) fun o z => by rw [upd_ne ne]; exact z⟩
      | io k c =>
        obtain ⟨b, e1, z1, z2, z3⟩ := q2
        subst e1
        have ne : b ≠ a := fun e => R0.psep j _ b n hj trivial q1 (by rw [e]; exact ha)
        exact ⟨b, rfl, z1, z2, z3.mono (Same.refl _) fun o z => by rw [upd_ne ne]; exact z⟩
      | _ => exact q2
    · have := hasSto_set (M := M1) h fun M z => by cases z
      unfold HasSto at h
      rw [List.length_set, List.getElem?_set_self hS.lt] at h
      cases h
    · by_cases e : b = a
      · rw [e, upd_same]
        exact fun z => nomatch z
      · rw [upd_ne e]
        exact (R.pin m b h).1
  have hS1 : (env.set (env.length - 1) .no).length = env.length := List.length_set
  have R2 : Rel K B ((env.set (env.length - 1) .no).set (env.length - 1) (.sto (M.set n c'))) σ Hk (upd H a o') := by
    refine ⟨R1.ex, R1.kn, R1.fr, R1.kp, R1.oin, R1.o0, by rw [List.length_set]; exact R1.len, fun j t hj => ?_, fun j k s t b hj hk' ms mt q1 q2 => ?_, fun M1 h => ?_, R1.pin, fun j s b m hj ms q => ?_⟩
    · rcases set_get hj with ⟨rfl, rfl⟩ | ⟨hne, hj'⟩
      · obtain ⟨o, h1, _⟩ := R.slot _ _ hS
        exact ⟨o, h1, trivial⟩
      · exact R1.slot j t hj'
    · rcases set_get hj with ⟨rfl, rfl⟩ | ⟨_, hj⟩
      · cases ms
      · rcases set_get hk' with ⟨rfl, rfl⟩ | ⟨_, hk'⟩
        · cases mt
        · exact R1.sep j k s t b hj hk' ms mt q1 q2
    · have hM : M1 = M.set n c' := by
        unfold HasSto at h
        rw [List.length_set, hS1, List.getElem?_set_self (by rw [hS1]; exact hS.lt)] at h
        exact (Slot.sto.inj (Option.some.inj h)).symm
      subst hM
      refine ⟨fun m c1 h1 => ?_, S.inj, fun m h1 => S.top m (by rw [List.length_set] at h1; exact h1)⟩
      rcases set_get h1 with ⟨rfl, rfl⟩ | ⟨ne, h1⟩
      · exact ⟨a, ha, h3, fun _ => hk⟩
      · obtain ⟨b, w1, w2, w3⟩ := S.cel m c1 h1
        have nb : b ≠ a := fun e => ne (S.inj m n a (e ▸ w1) ha)
        refine ⟨b, w1, w2.mono (.refl _) (fun o z => by rw [upd_ne nb]; exact z) (fun dx z => ?_), w3⟩
        have nd : dx ≠ a := fun e => by
          rw [e, hu] at z
          exact hx b (Option.some.inj z)
        rw [upd_ne nd]
        exact z
    · rcases set_get hj with ⟨rfl, rfl⟩ | ⟨_, hj⟩
      · cases ms
      · exact R1.psep j s b m hj ms q
  rw [List.set_set] at R2
  exact R2
/-- a place more -/
def Kn.pinned (Hk : Kn) (n : Nat) (a : Addr) : Kn := ⟨Hk.k, fun m => if m = n then some a else Hk.P m⟩
theorem Kn.pinned_same {n : Nat} {a : Addr} (h : Hk.P n = none) : KSame Hk (Hk.pinned n a) := ⟨Same.refl _, fun m x e => by
  show (if m = n then some a else Hk.P m) = some x
  by_cases z : m = n
  · rw [z, h] at e
    cases e
  · rw [if_neg z]
    exact e⟩
theorem Kn.pinned_at {n : Nat} {a : Addr} : (Hk.pinned n a).P n = some a := if_pos rfl
/-- what nobody has is taken into the store -/
theorem Rel.stoTake (R : Rel K B env σ Hk H) (hS : HasSto env M) {a : Addr} {c : MC} (hk : Hk a = none) (h0 : B.H0 a = none) (hP : ∀ (n : Nat), Hk.P n ≠ some a) (hn : ∀ (j : Nat) s, env[j]? = some s → s.mut → σ[j]? ≠ some (some (V.ref a)))
    (hc : CellM K Hk H a c) (hl : c.live) : Rel K B (stoPut env (M ++ [c])) σ (Hk.pinned M.length a) H ∧ KSame Hk (Hk.pinned M.length a) ∧ PvOk K (Hk.pinned M.length a) (.ref a) (.ref M.length) := by
  have S := R.sok M hS
  have sm : KSame Hk (Hk.pinned M.length a) := Kn.pinned_same (S.top _ (Nat.le_refl _))
  have at_ : ∀ m b, (Hk.pinned M.length a).P m = some b → (m = M.length ∧ b = a) ∨ (m ≠ M.length ∧ Hk.P m = some b) := fun m b h => by
    have h : (if m = M.length then some a else Hk.P m) = some b := h
    by_cases z : m = M.length
    · rw [if_pos z] at h
      exact .inl ⟨z, (Option.some.inj h).symm⟩
    · rw [if_neg z] at h
      exact .inr ⟨z, h⟩
  obtain ⟨u, hu, _⟩ := hc.there hl
  refine ⟨⟨R.ex, R.kn.trans sm, R.fr, R.kp, R.oin, R.o0, ?_, fun j t hj => ?_, fun j k s t b hj hk' ms mt g1 g2 => ?_, fun M1 h => ?_, fun m b h => ?_, fun j s b m hj ms g e => ?_⟩, sm, .ref Kn.pinned_at⟩
  · unfold stoPut
    rw [List.length_set]
    exact R.len
  · rcases set_get hj with ⟨rfl, rfl⟩ | ⟨hne, hj'⟩
    · obtain ⟨o, h1, _⟩ := R.slot _ _ hS
      exact ⟨o, h1, trivial⟩
    · obtain ⟨o, q1, q2⟩ := R.slot j t hj'
      refine ⟨o, q1, ?_⟩
      cases t with
      | pv p =>
        obtain ⟨v, e1, q⟩ := q2
        exact ⟨v, e1, q.mono sm⟩
      | _ => exact q2
  · rcases set_get hj with ⟨rfl, rfl⟩ | ⟨_, hj⟩
    · cases ms
    · rcases set_get hk' with ⟨rfl, rfl⟩ | ⟨_, hk'⟩
      · cases mt
      · exact R.sep j k s t b hj hk' ms mt g1 g2
  · rw [h.uniq (hS.put _)]
    refine ⟨fun m c1 h1 => ?_, fun m k b w1 w2 => ?_, fun m h1 => ?_⟩
    · by_cases hm : m < M.length
      · rw [List.getElem?_append_left hm] at h1
        obtain ⟨b, w1, w2, w3⟩ := S.cel m c1 h1
        exact ⟨b, sm.p _ _ w1, w2.mono sm (fun o z => z) fun dx z => z, w3⟩
      · have hm2 : m = M.length := by
          have := (List.getElem?_eq_some_iff.mp h1).1
          rw [List.length_append, List.length_singleton] at this
          omega
        subst hm2
        rw [List.getElem?_append_right (Nat.le_refl _), Nat.sub_self] at h1
        cases h1
        exact ⟨a, Kn.pinned_at, hc.mono sm (fun o z => z) (fun dx z => z), fun _ => hk⟩
    · rcases at_ m b w1 with ⟨e1, e2⟩ | ⟨e1, e2⟩
      · rcases at_ k b w2 with ⟨e3, e4⟩ | ⟨e3, e4⟩
        · rw [e1, e3]
        · exact absurd (e2 ▸ e4) (hP k)
      · rcases at_ k b w2 with ⟨e3, e4⟩ | ⟨e3, e4⟩
        · exact absurd (e4 ▸ e2) (hP m)
        · exact S.inj m k b e2 e4
    · rw [List.length_append, List.length_singleton] at h1
      show (if m = M.length then some a else Hk.P m) = none
      rw [if_neg (by omega)]
      exact S.top m (by omega)
  · rcases at_ m b h with ⟨e1, e2⟩ | ⟨e1, e2⟩
    · subst e2
      exact ⟨ne_none hu, fun _ => .inl h0⟩
    · exact R.pin m b e2
  · rcases set_get hj with ⟨rfl, rfl⟩ | ⟨_, hj⟩
    · cases ms
    · rcases at_ m b e with ⟨e1, e2⟩ | ⟨e1, e2⟩
      · subst e2
        exact hn j s hj ms g
      · exact R.psep j s b m hj ms g e2
/-! ### a result goes into the store -/
def Cell.mc : Cell → MC
  | .lst ds => .lst (ds.map .dat)
  | .dct es => .dct (es.map fun p => (p.1, .dat p.2))
theorem pvAll_dat : ∀ {vs : List V} {ds : List PyData}, DvAll K Hk vs ds → PvAll K Hk vs (ds.map .dat)
  | _, _, .nil => .nil
  | _, _, .cons h1 h2 => .cons (.dat h1) (pvAll_dat h2)
theorem pvKv_dat : ∀ {vs : List (Key × V)} {ds : List (PyData × PyData)}, DvKv K Hk vs ds → PvKv K Hk vs (ds.map fun p => (p.1, .dat p.2))
  | _, _, .nil => .nil
  | _, _, .cons h1 h2 => .cons (.dat h1) (pvKv_dat h2)
theorem CellAt.mc {a : Addr} {c : Cell} (h : CellAt K Hk H a c) : CellM K Hk H a c.mc ∧ c.mc.live := by
  cases c with
  | lst ds =>
    obtain ⟨vs, h1, h2⟩ := h
    exact ⟨⟨vs, h1, pvAll_dat h2⟩, trivial⟩
  | dct ds =>
    obtain ⟨vs, h1, h2⟩ := h
    exact ⟨⟨vs, h1, pvKv_dat h2⟩, trivial⟩
def into : Res × Sl → Option (PV × Sl)
  | (.dat d, e) => some (.dat d, e)
  | (.pv p, e) => some (p, e)
  | (.new c, e) => match e[e.length - 1]? with
    | some (.sto M) => some (.ref M.length, stoPut e (M ++ [c.mc]))
    | _ => none
  | (.slt i, e) => match e[i]?, e[e.length - 1]? with
    | some (.val d), _ => some (.dat d, e)
    | some (.own c), some (.sto M) => some (.ref M.length, (stoPut e (M ++ [c.mc])).set i (.pv (.ref M.length)))
    | _, _ => none
theorem Rel.into {r : Res} {v : V} {p : PV} (R : Rel K B env σ Hk H) (o : ResOk K B env σ Hk H r v) (h : Cm.into (r, env) = some (p, env')) : ∃ Hk' : Kn, Rel K B env' σ Hk' H ∧ KSame Hk Hk' ∧ PvOk K Hk' v p := by
  cases r with
  | dat d =>
    cases h
    exact ⟨Hk, R, .refl _, .dat o⟩
  | pv q =>
    cases h
    exact ⟨Hk, R, .refl _, o⟩
  | new c =>
    unfold Cm.into at h
    cases hS : env[env.length - 1]? with
    | none => simp only [hS] at h; cases h
    | some s =>
      cases s with
      | sto M =>
        simp only [hS] at h
        cases h
        obtain ⟨a, rfl, h1, h2, h3, h5, h4⟩ := o
        obtain ⟨R1, s1, q1⟩ := R.stoTake hS h1 h2 h5 h4 h3.mc.1 h3.mc.2
        exact ⟨_, R1, s1, q1⟩
      | _ => simp only [hS] at h; cases h
  | slt i =>
    unfold Cm.into at h
    have o : σ[i]? = some (some v) := o
    cases hi : env[i]? with
    | none => simp only [hi] at h; cases h
    | some s =>
      obtain ⟨u, g1, g2⟩ := R.slot i s hi
      rw [o] at g1
      cases g1
      cases s with
      | val d =>
        simp only [hi] at h
        cases h
        obtain ⟨v', e1, z⟩ := g2
        cases e1
        exact ⟨Hk, R, .refl _, .dat z⟩
      | own c =>
        cases hS : env[env.length - 1]? with
        | none => simp only [hi, hS] at h; cases h
        | some s =>
          cases s with
          | sto M =>
            simp only [hi, hS] at h
            cases h
            obtain ⟨a, e1, q1, q2, q3⟩ := g2
            cases e1
            have hS' : HasSto env M := hS
            have ni := hS'.ne hi fun M z => by cases z
            have R0 : Rel K B (env.set i .no) σ Hk H := R.less (fun z => z) (fun M z => by cases z) fun o _ => trivial
            have hS0 : HasSto (env.set i .no) M := hS'.set ni
            obtain ⟨R1, s1, p1⟩ := R0.stoTake hS0 q1 q2 (fun n => R.psep i _ a n hi trivial o) (fun j s hj hm e => by
              rcases set_get hj with ⟨rfl, rfl⟩ | ⟨ne, hj⟩
              · cases hm
              · exact ne (R.sep j i s _ a hj hi hm trivial e o)) q3.mc.1 q3.mc.2
            have R2 := R1.less (i := i) (s := .pv (.ref M.length)) (fun z => z) (fun M z => by cases z) fun u hu => by
              rw [o] at hu
              cases hu
              exact ⟨_, rfl, p1⟩
            have eq : (stoPut (env.set i .no) (M ++ [c.mc])).set i (.pv (.ref M.length)) = (stoPut env (M ++ [c.mc])).set i (.pv (.ref M.length)) := by
              unfold stoPut
              rw [List.length_set, List.set_comm _ _ (fun z => ni z), List.set_set]
            rw [eq] at R2
            exact ⟨_, R2, s1, p1⟩
          | _ => simp only [hi, hS] at h; cases h
      | _ => simp only [hi] at h; cases h
def mIn (m : ME) : ME := fun env => (m env).bind fun p => (into p).map fun q => (.pv q.1, q.2)
theorem in_run {m : ME} {Q : VK} (h : tE K (mIn m) σ H Q) : tE K m σ H Q := by
  obtain ⟨B, env, Hk, r, env', R, hm, k⟩ := h
  obtain ⟨⟨r1, e1⟩, h1, hm⟩ := Option.bind_eq_some_iff.mp hm
  obtain ⟨⟨p, e2⟩, h2, hm⟩ := Option.map_eq_some_iff.mp hm
  cases hm
  refine ⟨B, env, Hk, r1, e1, R, h1, fun v Hk1 H1 R1 s1 o1 => ?_⟩
  obtain ⟨Hk', R', s', z⟩ := R1.into o1 h2
  exact k v Hk' H1 R' (s1.trans s') z
theorem ve_in {e : Expr} {m : ME} (h : VE X e m) : VE X e (mIn m) := h.imp fun _ _ _ => in_run
end
end Cm
namespace Cm
open PySem L2
theorem _root_.L2.PE.or {X : Cx} {e : Expr} {t1 t2 : TE} (h1 : PE X e t1) (h2 : PE X e t2) : PE X e fun σ H Q => t1 σ H Q ∨ t2 σ H Q := ⟨fun pins s σ H Q I q => q.elim (h1.run pins s σ H Q I) (h2.run pins s σ H Q I)⟩
/-! ### lists and dicts of what the store holds -/
def pvGet (es : List (PyData × PV)) (k : Key) : Option PV := (es.find? fun p => decide (keyOf p.1 = some k)).map (·.2)
def pvPut (es : List (PyData × PV)) (k : Key) (d : PV) : List (PyData × PV) :=
  if (es.any fun p => decide (keyOf p.1 = some k)) = true then es.map (fun p => if keyOf p.1 = some k then (p.1, d) else p) else es ++ [(keyD k, d)]
def pvDrop (es : List (PyData × PV)) (k : Key) : List (PyData × PV) := es.filter fun p => decide (keyOf p.1 ≠ some k)
section
variable {X : Cx} {K : PySem.W.Frag} {B : Fb} {env env' : Sl} {σ : L2.St} {Hk Hk' : Kn} {H H' : Hp}
theorem PvAll.len : ∀ {vs : List V} {ps : List PV}, PvAll K Hk vs ps → vs.length = ps.length
  | _, _, .nil => rfl
  | _, _, .cons _ h => by
    have := PvAll.len h
    simp [this]
theorem PvAll.get : ∀ {vs : List V} {ps : List PV}, PvAll K Hk vs ps → ∀ (i : Nat) (p : PV), ps[i]? = some p → ∃ v, vs[i]? = some v ∧ PvOk K Hk v p
  | _, _, .nil, i, p, h => by simp at h
  | _, _, .cons h1 h2, 0, p, h => by
    simp at h
    subst h
    exact ⟨_, rfl, h1⟩
  | _, _, .cons h1 h2, i + 1, p, h => by
    obtain ⟨v, e, q⟩ := PvAll.get h2 i p (by simpa using h)
    exact ⟨v, by simpa using e, q⟩
theorem PvAll.append : ∀ {vs ws : List V} {ps qs : List PV}, PvAll K Hk vs ps → PvAll K Hk ws qs → PvAll K Hk (vs ++ ws) (ps ++ qs)
  | _, _, _, _, .nil, h => h
  | _, _, _, _, .cons h1 h2, h => .cons h1 (PvAll.append h2 h)
theorem PvAll.set {v : V} {p : PV} (q : PvOk K Hk v p) : ∀ {vs : List V} {ps : List PV} (i : Nat), PvAll K Hk vs ps → PvAll K Hk (vs.set i v) (ps.set i p)
  | _, _, _, .nil => .nil
  | _, _, 0, .cons _ h2 => .cons q h2
  | _, _, i + 1, .cons h1 h2 => .cons h1 (PvAll.set q i h2)
theorem PvAll.take : ∀ {vs : List V} {ps : List PV} (n : Nat), PvAll K Hk vs ps → PvAll K Hk (vs.take n) (ps.take n)
  | _, _, 0, _ => .nil
  | _, _, _ + 1, .nil => .nil
  | _, _, n + 1, .cons h1 h2 => .cons h1 (PvAll.take n h2)
theorem PvAll.drop : ∀ {vs : List V} {ps : List PV} (n : Nat), PvAll K Hk vs ps → PvAll K Hk (vs.drop n) (ps.drop n)
  | _, _, 0, h => h
  | _, _, _ + 1, .nil => .nil
  | _, _, n + 1, .cons h1 h2 => PvAll.drop n h2
theorem PvAll.rev : ∀ {vs : List V} {ps : List PV}, PvAll K Hk vs ps → PvAll K Hk vs.reverse ps.reverse
  | _, _, .nil => .nil
  | _, _, .cons h1 h2 => by
    rw [List.reverse_cons, List.reverse_cons]
    exact PvAll.append (PvAll.rev h2) (.cons h1 .nil)
theorem PvAll.erase : ∀ {vs : List V} {ps : List PV} (i : Nat), PvAll K Hk vs ps → PvAll K Hk (vs.eraseIdx i) (ps.eraseIdx i)
  | _, _, _, .nil => .nil
  | _, _, 0, .cons _ h2 => h2
  | _, _, i + 1, .cons h1 h2 => .cons h1 (PvAll.erase i h2)
theorem pvKv_len : ∀ {kvs : List (Key × V)} {es : List (PyData × PV)}, PvKv K Hk kvs es → kvs.length = es.length
  | _, _, .nil => rfl
  | _, _, .cons _ h => by
    have := pvKv_len h
    simp [this]
theorem pvKv_get (k : Key) : ∀ {kvs : List (Key × V)} {es : List (PyData × PV)}, PvKv K Hk kvs es → (valV kvs k = none ∧ pvGet es k = none) ∨ ∃ v d, valV kvs k = some v ∧ pvGet es k = some d ∧ PvOk K Hk v d
  | _, _, .nil => .inl ⟨rfl, rfl⟩
  | _, _, .cons (k := j) (v := v) (p := d) h1 h2 => by
    by_cases e : j = k
    · subst e
      exact .inr ⟨v, d, valV_pos rfl, by simp [pvGet, keyOf_keyD], h1⟩
    · have e2 : ¬ keyOf (keyD j) = some k := by
        rw [keyOf_keyD]
        exact fun z => e (Option.some.inj z)
      rw [valV_neg (p := (j, v)) e]
      have : ∀ r, pvGet ((keyD j, d) :: r) k = pvGet r k := fun r => by simp [pvGet, e2]
      rw [this]
      exact pvKv_get k h2
theorem pvKv_any (k : Key) : ∀ {kvs : List (Key × V)} {es : List (PyData × PV)}, PvKv K Hk kvs es → (kvs.any fun kv => decide (kv.1 = k)) = (es.any fun p => decide (keyOf p.1 = some k))
  | _, _, .nil => rfl
  | _, _, .cons h1 h2 => by
    rw [List.any_cons, List.any_cons, pvKv_any k h2]
    simp [keyOf_keyD]
theorem pvKv_repl (k : Key) {v : V} {d : PV} (q : PvOk K Hk v d) : ∀ {kvs : List (Key × V)} {es : List (PyData × PV)}, PvKv K Hk kvs es → PvKv K Hk (kvs.map fun kv => if kv.1 = k then (kv.1, v) else kv) (es.map fun p => if keyOf p.1 = some k then (p.1, d) else p)
  | _, _, .nil => .nil
  | _, _, .cons (k := j) h1 h2 => by
    rw [List.map_cons, List.map_cons]
    by_cases e : j = k
    · rw [if_pos e, if_pos (by rw [keyOf_keyD, e])]
      exact .cons q (pvKv_repl k q h2)
    · rw [if_neg e, if_neg (by rw [keyOf_keyD]; exact fun z => e (Option.some.inj z))]
      exact .cons h1 (pvKv_repl k q h2)
theorem pvKv_app : ∀ {kvs kvs' : List (Key × V)} {es es' : List (PyData × PV)}, PvKv K Hk kvs es → PvKv K Hk kvs' es' → PvKv K Hk (kvs ++ kvs') (es ++ es')
  | _, _, _, _, .nil, h => h
  | _, _, _, _, .cons h1 h2, h => .cons h1 (pvKv_app h2 h)
theorem pvKv_put (k : Key) {v : V} {d : PV} (q : PvOk K Hk v d) {kvs : List (Key × V)} {es : List (PyData × PV)} (h : PvKv K Hk kvs es) : PvKv K Hk (putK kvs k v) (pvPut es k d) := by
  unfold putK pvPut
  rw [pvKv_any k h]
  split
  · exact pvKv_repl k q h
  · exact pvKv_app h (.cons q .nil)
theorem pvKv_drop (k : Key) : ∀ {kvs : List (Key × V)} {es : List (PyData × PV)}, PvKv K Hk kvs es → PvKv K Hk (dropK kvs k) (pvDrop es k)
  | _, _, .nil => .nil
  | _, _, .cons (k := j) h1 h2 => by
    unfold dropK pvDrop
    rw [List.filter_cons, List.filter_cons]
    by_cases e : j = k
    · subst e
      simp only [ne_eq, not_true_eq_false, decide_false, Bool.false_eq_true, if_false, keyOf_keyD]
      exact pvKv_drop j h2
    · have e2 : ¬ keyOf (keyD j) = some k := by
        rw [keyOf_keyD]
        exact fun z => e (Option.some.inj z)
      simp only [ne_eq, e, not_false_eq_true, decide_true, if_true, e2]
      exact .cons h1 (pvKv_drop k h2)
/-! ### operands -/
def pvR : Res → Option PV
  | .dat d => some (.dat d)
  | .pv p => some p
  | _ => none
theorem RsOk.pvR {r : Res} {v : V} {p : PV} (h : RsOk K σ Hk r v) (e : Cm.pvR r = some p) : PvOk K Hk v p := by
  cases r with
  | dat d => cases e; exact .dat h
  | pv q => cases e; exact h
  | new c => cases e
  | slt i => cases e
theorem ResOk.pvR {r : Res} {v : V} {p : PV} (h : ResOk K B env σ Hk H r v) (e : Cm.pvR r = some p) : PvOk K Hk v p := by
  cases r with
  | dat d => cases e; exact .dat h
  | pv q => cases e; exact h
  | new c => cases e
  | slt i => cases e
/-- an item of a list or a tuple as it stands; of a dict -/
def PV.ix (M : List MC) (x : PV) (i : Int) : Option PV := match x with
  | .tup ps => atI ps i
  | .dat (.list ds) => (atI ds i).map .dat
  | .dat (.tuple ds) => (atI ds i).map .dat
  | .dat _ => none
  | .ref n => match M[n]? with
    | some (.lst ps) => atI ps i
    | some (.frz (.list ds)) => (atI ds i).map .dat
    | _ => none
def PV.dx (M : List MC) (x : PV) (k : Key) : Option (Option PV) := match x with
  | .dat (.dict es) => some ((dGet es k).map .dat)
  | .ref n => match M[n]? with
    | some (.dct es) => some (pvGet es k)
    | some (.frz (.dict es)) => some ((dGet es k).map .dat)
    | _ => none
  | _ => none
theorem key_V {v : V} {d : PyData} {k : Key} (h : Dv K Hk v d) (e : keyOf d = some k) : v = kV k := by
  cases d with
  | int i => cases e; cases h; rfl
  | str x => cases e; cases h; rfl
  | _ => cases e
theorem atI_len {α β : Type} {xs : List α} {ys : List β} {i : Int} {y : β} (h : xs.length = ys.length) (e : atI ys i = some y) : ∃ j : Nat, ys[j]? = some y ∧ atI xs i = xs[j]? := by
  unfold atI at *
  obtain ⟨j, h1, h2⟩ := Option.bind_eq_some_iff.mp e
  refine ⟨j, h2, ?_⟩
  rw [h, h1]
  rfl
theorem ix_at (R : Rel K B env σ Hk H) {v : V} {x z : PV} {i : Int} {Q : VK} (hx : PvOk K Hk v x) (h : PV.ix (sto env) x i = some z) (q : ∀ u, PvOk K Hk u z → Q u H) : rIx K v (.int i) H Q := by
  have pst : ∀ (vs : List V) (ps : List PV), PvAll K Hk vs ps → atI ps i = some z → ∃ u, atI vs i = some u ∧ Q u H := fun vs ps g2 g3 => by
    obtain ⟨j, h1, h2⟩ := atI_len g2.len g3
    obtain ⟨u, h4, h5⟩ := g2.get j z h1
    exact ⟨u, by rw [h2]; exact h4, q u h5⟩
  have dst : ∀ (vs : List V) (ds : List PyData), DvAll K Hk vs ds → (atI ds i).map PV.dat = some z → ∃ u, atI vs i = some u ∧ Q u H := fun vs ds g2 g3 => by
    obtain ⟨d, g4, rfl⟩ := Option.map_eq_some_iff.mp g3
    obtain ⟨j, h1, h2⟩ := atI_len g2.len g4
    obtain ⟨u, h4, h5⟩ := g2.get j d h1
    exact ⟨u, by rw [h2]; exact h4, q u (.dat h5)⟩
  unfold PV.ix at h
  cases hx with
  | tup h1 h2 =>
    obtain ⟨u, g1, g2⟩ := pst _ _ h2 h
    exact .inr (.inl ⟨_, _, i, u, rfl, rfl, same_tup R.ex h1, g1, g2⟩)
  | @dat v d hd =>
    cases d with
    | list ds =>
      cases hd with
      | lst h1 h2 =>
        obtain ⟨u, g1, g2⟩ := dst _ _ h2 h
        exact .inl ⟨_, _, i, u, rfl, rfl, SqL.of (R.ex _ _ h1), g1, g2⟩
    | tuple ds =>
      cases hd with
      | tup h1 h2 =>
        obtain ⟨u, g1, g2⟩ := dst _ _ h2 h
        exact .inr (.inl ⟨_, _, i, u, rfl, rfl, same_tup R.ex h1, g1, g2⟩)
    | _ => cases h
  | @ref a n hr =>
    cases hc : (sto env)[n]? with
    | none => simp only [hc] at h; cases h
    | some c =>
      obtain ⟨hS, b, g1, g2, g3⟩ := R.stoAt hc
      rw [hr] at g1
      cases g1
      simp only [hc] at h
      cases c with
      | lst ps =>
        obtain ⟨vs, h4, h5⟩ := g2
        obtain ⟨u, w1, w2⟩ := pst _ _ h5 h
        exact .inl ⟨_, _, i, u, rfl, rfl, SqL.of h4, w1, w2⟩
      | frz d =>
        cases d with
        | list ds =>
          cases (show Dv K Hk (.ref a) (.list ds) from g2) with
          | lst h1 h2 =>
            obtain ⟨u, g1, g2⟩ := dst _ _ h2 h
            exact .inl ⟨_, _, i, u, rfl, rfl, SqL.of (R.ex _ _ h1), g1, g2⟩
        | _ => cases h
      | _ => cases h
theorem dx_at (R : Rel K B env σ Hk H) {v : V} {x : PV} {k : Key} {o : Option PV} (hx : PvOk K Hk v x) (h : PV.dx (sto env) x k = some o) : ∃ a kvs, v = .ref a ∧ Rd H a (.dK kvs) ∧ ((valV kvs k = none ∧ o = none) ∨ ∃ u p, valV kvs k = some u ∧ o = some p ∧ PvOk K Hk u p) := by
  have dst : ∀ (a : Addr) (kvs : List (Key × V)) (es : List (PyData × PyData)), Rd H a (.dK kvs) → DvKv K Hk kvs es → some ((dGet es k).map PV.dat) = some o → ∃ b kvs, V.ref a = .ref b ∧ Rd H b (.dK kvs) ∧ ((valV kvs k = none ∧ o = none) ∨ ∃ u p, valV kvs k = some u ∧ o = some p ∧ PvOk K Hk u p) := fun a kvs es g1 g2 g3 => by
    refine ⟨a, kvs, rfl, g1, ?_⟩
    rcases dvKv_get k g2 with ⟨z1, z2⟩ | ⟨u, d', z1, z2, z3⟩
    · rw [z2] at g3
      cases g3
      exact .inl ⟨z1, rfl⟩
    · rw [z2] at g3
      cases g3
      exact .inr ⟨u, _, z1, rfl, .dat z3⟩
  unfold PV.dx at h
  cases hx with
  | tup h1 h2 => cases h
  | @dat v d hd =>
    cases d with
    | dict es =>
      cases hd with
      | dct h1 h2 => exact dst _ _ _ (same_rd R.ex h1) h2 h
    | _ => cases h
  | @ref a n hr =>
    cases hc : (sto env)[n]? with
    | none => simp only [hc] at h; cases h
    | some c =>
      obtain ⟨hS, b, g1, g2, g3⟩ := R.stoAt hc
      rw [hr] at g1
      cases g1
      simp only [hc] at h
      cases c with
      | dct es =>
        obtain ⟨kvs, h4, h5⟩ := g2
        cases h
        refine ⟨a, kvs, rfl, .inl h4, ?_⟩
        rcases pvKv_get k h5 with ⟨z1, z2⟩ | ⟨u, p, z1, z2, z3⟩
        · exact .inl ⟨z1, z2⟩
        · exact .inr ⟨u, p, z1, z2, z3⟩
      | frz d =>
        cases d with
        | dict es =>
          cases (show Dv K Hk (.ref a) (.dict es) from g2) with
          | dct h1 h2 => exact dst _ _ _ (same_rd R.ex h1) h2 h
        | _ => cases h
      | _ => cases h
/-- x[i], x[k] -/
def mPix (ma mb : ME) : ME := fun env => (ma env).bind fun p => (mb p.2).bind fun q => (pvR p.1).bind fun x => match q.1 with
  | .dat (.int i) => (x.ix (sto q.2) i).map fun z => (.pv z, q.2)
  | _ => none
def mPdx (ma mb : ME) : ME := fun env => (ma env).bind fun p => (mb p.2).bind fun q => (pvR p.1).bind fun x => match q.1 with
  | .dat d => (keyOf d).bind fun k => (x.dx (sto q.2) k).bind fun o => o.map fun z => (.pv z, q.2)
  | _ => none
theorem pix_run {ma mb : ME} {Q : VK} (h : tE K (mPix ma mb) σ H Q) : tOp (rIx K) (tE K ma) (tE K mb) σ H Q := by
  obtain ⟨B, env, Hk, res, env', R, hm, k⟩ := h
  obtain ⟨⟨x, e1⟩, h1, hm⟩ := Option.bind_eq_some_iff.mp hm
  obtain ⟨⟨y, e2⟩, h2, hm⟩ := Option.bind_eq_some_iff.mp hm
  obtain ⟨px, h3, hm⟩ := Option.bind_eq_some_iff.mp hm
  cases y with
  | dat d =>
    cases d with
    | int i =>
      obtain ⟨pz, h5, hm⟩ := Option.map_eq_some_iff.mp hm
      cases hm
      refine ⟨B, env, Hk, x, e1, R, h1, fun v Hk1 H1 R1 s1 o1 => ?_⟩
      refine ⟨B, e1, Hk1, _, _, R1, h2, fun w Hk2 H2 R2 s2 o2 => ?_⟩
      cases o2
      exact ix_at R2 ((o1.pvR h3).mono s2) h5 fun u hu => k u Hk2 H2 R2 (s1.trans s2) hu
    | _ => cases hm
  | _ => cases hm
theorem pdx_run {ma mb : ME} {Q : VK} (h : tE K (mPdx ma mb) σ H Q) : tDGet (tE K ma) (tE K mb) σ H Q := by
  obtain ⟨B, env, Hk, res, env', R, hm, k⟩ := h
  obtain ⟨⟨x, e1⟩, h1, hm⟩ := Option.bind_eq_some_iff.mp hm
  obtain ⟨⟨y, e2⟩, h2, hm⟩ := Option.bind_eq_some_iff.mp hm
  obtain ⟨px, h3, hm⟩ := Option.bind_eq_some_iff.mp hm
  cases y with
  | dat d =>
    obtain ⟨kk, h4, hm⟩ := Option.bind_eq_some_iff.mp hm
    obtain ⟨o, h5, hm⟩ := Option.bind_eq_some_iff.mp hm
    obtain ⟨pz, h6, hm⟩ := Option.map_eq_some_iff.mp hm
    cases hm
    refine ⟨B, env, Hk, x, e1, R, h1, fun v Hk1 H1 R1 s1 o1 => ?_⟩
    refine ⟨B, e1, Hk1, _, _, R1, h2, fun w Hk2 H2 R2 s2 o2 => ?_⟩
    obtain ⟨a, kvs, rfl, g1, g2⟩ := dx_at R2 ((o1.pvR h3).mono s2) h5
    rcases g2 with ⟨z1, z2⟩ | ⟨u, p, z1, z2, z3⟩
    · rw [h6] at z2; cases z2
    · rw [h6] at z2
      cases z2
      rw [key_V o2 h4]
      exact ⟨a, u, rfl, .inl ⟨kvs, kk, g1, rfl, z1.symm⟩, k u Hk2 H2 R2 (s1.trans s2) z3⟩
  | _ => cases hm
theorem ve_pix {a b : Expr} {ma mb : ME} {pos : Pos} (ha : VE X a ma) (hb : VE X b mb) (hs : PlainIx b) : VE X (.Subscript a b pos) (mPix ma mb) := (pe_ix ix_seq ha hb hs).imp fun _ _ _ => pix_run
theorem ve_pdx {a b : Expr} {ma mb : ME} {pos : Pos} (hu : X.A.units + 64 < cLine) (ha : VE X a ma) (hb : VE X b mb) (hs : NoSl b) : VE X (.Subscript a b pos) (mPdx ma mb) := (pe_dget (by omega) ha hb hs).imp fun _ _ _ => pdx_run
end
end Cm
namespace Cm
open PySem L2
/-! ### all that a frame has, lent for one expression that only reads -/
def lentSlot : Slot → Slot
  | .own c => .val c.dat
  | .io _ c => .val c.dat
  | .sto _ => .no
  | .pin _ => .no
  | s => s
def noPv : Slot → Slot
  | .pv _ => .no
  | s => s
def lentGo (M : List MC) : List Nat → Sl → Option Sl
  | [], e => some (e.map noPv)
  | i :: is, e => match e[i]? with
    | some (.pv p) => (p.deep M 9).bind fun d => lentGo M is (e.set i (.val d))
    | _ => none
def lentEnv (is : List Nat) (env : Sl) : Option Sl := lentGo (sto env) is (env.map lentSlot)
def resFlat : Res → Bool
  | .dat d => noL d
  | .new (.lst ds) => noLs ds
  | .new (.dct es) => noLs (es.map (·.2))
  | _ => false
def mLendS (is : List Nat) (m : ME) : ME := fun env => (lentEnv is env).bind fun e => (m e).bind fun p => if resFlat p.1 = true then some (p.1, env) else none
section
variable {X : Cx} {K : PySem.W.Frag} {B : Fb} {env env' : Sl} {σ : L2.St} {Hk Hk' : Kn} {H H' : Hp}
open Classical in
/-- what is known while all is lent -/
noncomputable def lentK (env : Sl) (σ : L2.St) (Hk : Kn) (H : Hp) : Hp := fun a =>
  if (∃ (j : Nat) (s : Slot), env[j]? = some s ∧ s.mut ∧ σ[j]? = some (some (V.ref a))) ∨ (∃ (n : Nat) (c : MC), (sto env)[n]? = some c ∧ c.live ∧ Hk.P n = some a) then H a else Hk a
theorem lentK_same (R : Rel K B env σ Hk H) : Same Hk (lentK env σ Hk H) := fun a o e => by
  unfold lentK
  split
  · exact R.ex _ _ e
  · exact e
theorem lentK_ex (R : Rel K B env σ Hk H) : Same (lentK env σ Hk H) H := fun a o e => by
  unfold lentK at e
  split at e
  · exact e
  · exact R.ex _ _ e
/-- an address that is known just for now holds no tuple -/
theorem lentK_new (R : Rel K B env σ Hk H) {a : Addr} (h : lentK env σ Hk H a ≠ none) (hk : Hk a = none) : ∃ o, H a = some o ∧ (∀ xs, o ≠ .tup xs) ∧ ∀ u xs, o ≠ .frz u (.tup xs) := by
  unfold lentK at h
  split at h
  · rename_i hc
    rcases hc with ⟨j, s, h1, h2, h3⟩ | ⟨n, c, h1, h2, h3⟩
    · obtain ⟨o, g1, g2⟩ := R.slot j s h1
      rw [h3] at g1
      cases g1
      have fin : ∀ c, CellAt K Hk H a c → ∃ o, H a = some o ∧ (∀ xs, o ≠ .tup xs) ∧ ∀ u xs, o ≠ .frz u (.tup xs) := fun c hc => by
        cases c with
        | lst ds =>
          obtain ⟨vs, g1, _⟩ := hc
          exact ⟨_, g1, (fun x z => by cases z), fun u x z => by cases z⟩
        | dct ds =>
          obtain ⟨vs, g1, _⟩ := hc
          exact ⟨_, g1, (fun x z => by cases z), fun u x z => by cases z⟩
      cases s with
      | own c => obtain ⟨b, e1, _, _, q⟩ := g2; cases e1; exact fin c q
      | io k c => obtain ⟨b, e1, _, _, q⟩ := g2; cases e1; exact fin c q
      | _ => cases h2
    · obtain ⟨_, b, g1, g2, g3⟩ := R.stoAt h1
      rw [h3] at g1
      cases g1
      cases c with
      | lst ds =>
        obtain ⟨vs, g1, _⟩ := g2
        exact ⟨_, g1, (fun x z => by cases z), fun u x z => by cases z⟩
      | dct ds =>
        obtain ⟨vs, g1, _⟩ := g2
        exact ⟨_, g1, (fun x z => by cases z), fun u x z => by cases z⟩
      | ins C fs =>
        obtain ⟨dx, vs, g1, _⟩ := g2
        exact ⟨_, g1, (fun x z => by cases z), fun u x z => by cases z⟩
      | frz d => cases h2
  · exact absurd hk h
/-- a slot while all is lent -/
theorem lent_slot (R : Rel K B env σ Hk H) {B' : Fb} {i : Nat} {s : Slot} {o : Option V} (hs : env[i]? = some s) (ho : σ[i]? = some o) (g : SlotOk K B Hk H s o) (hp : ∀ p, s ≠ .pv p) : SlotOk K B' ⟨lentK env σ Hk H, fun _ => none⟩ H (lentSlot s) o := by
  have sm := lentK_same R
  have cell : ∀ a c, CellAt K Hk H a c → s.mut → o = some (.ref a) → Dv K (lentK env σ Hk H) (.ref a) c.dat := fun a c hc hm e => by
    obtain ⟨ob, h1, h2⟩ := hc.obj
    refine h2 _ sm ?_
    subst e
    have : lentK env σ Hk H a = H a := if_pos (.inl ⟨i, s, hs, hm, ho⟩)
    rw [this]
    exact h1
  cases s with
  | no => trivial
  | sto M => trivial
  | pin k => trivial
  | pv p => exact absurd rfl (hp p)
  | val d =>
    obtain ⟨v, e, q⟩ := g
    exact ⟨v, e, dv_mono sm _ _ q⟩
  | scr ns =>
    obtain ⟨a, e, q⟩ := g
    exact ⟨a, e, sm.seq q⟩
  | own c =>
    obtain ⟨a, e, _, _, q⟩ := g
    exact ⟨_, e, cell a c q trivial e⟩
  | io k c =>
    obtain ⟨a, e, _, _, q⟩ := g
    exact ⟨_, e, cell a c q trivial e⟩
theorem lentGo_ok (R : Rel K B env σ Hk H) {B' : Fb} : ∀ {is : List Nat} {e e2 : Sl}, lentGo (sto env) is e = some e2 → (∀ (i : Nat) s, e[i]? = some s → ¬ s.mut ∧ (∀ M, s ≠ .sto M) ∧ ∃ o, σ[i]? = some o ∧ (∀ p, s = .pv p → ∃ v, o = some v ∧ PvOk K Hk v p) ∧ ((∀ p, s ≠ .pv p) → SlotOk K B' ⟨lentK env σ Hk H, fun _ => none⟩ H s o)) → e.length = σ.length →
    e2.length = σ.length ∧ ∀ (i : Nat) s, e2[i]? = some s → ¬ s.mut ∧ (∀ M, s ≠ .sto M) ∧ ∃ o, σ[i]? = some o ∧ SlotOk K B' ⟨lentK env σ Hk H, fun _ => none⟩ H s o
  | [], e, e2, h, hs, hl => by
    cases h
    refine ⟨by rw [List.length_map]; exact hl, fun i s hi => ?_⟩
    rw [List.getElem?_map] at hi
    obtain ⟨t, h1, rfl⟩ := Option.map_eq_some_iff.mp hi
    obtain ⟨g1, g2, o, g3, _, g4⟩ := hs i t h1
    cases t with
    | pv p => exact ⟨fun z => z, (fun M z => by cases z), o, g3, trivial⟩
    | _ => exact ⟨g1, g2, o, g3, g4 fun p z => by cases z⟩
  | i :: is, e, e2, h, hs, hl => by
    cases hi : e[i]? with
    | none => simp only [lentGo, hi] at h; cases h
    | some s =>
      cases s with
      | pv p =>
        simp only [lentGo, hi] at h
        obtain ⟨d, h1, h2⟩ := Option.bind_eq_some_iff.mp h
        refine lentGo_ok R h2 (fun j t hj => ?_) (by rw [List.length_set]; exact hl)
        rcases set_get hj with ⟨rfl, rfl⟩ | ⟨ne, hj⟩
        · obtain ⟨_, _, o, g3, g4, _⟩ := hs j _ hi
          refine ⟨fun z => z, (fun M z => by cases z), o, g3, (fun p z => by cases z), fun _ => ?_⟩
          obtain ⟨v, rfl, g5⟩ := g4 p rfl
          exact ⟨v, rfl, R.deepP (lentK_same R) (fun n c a x1 x2 x3 => if_pos (.inr ⟨n, c, x1, x2, x3⟩)) 9 g5 h1⟩
        · exact hs j t hj
      | _ => simp only [lentGo, hi] at h; cases h
theorem lent_rel (R : Rel K B env σ Hk H) {is : List Nat} {e2 : Sl} (h : lentEnv is env = some e2) : ∃ B' : Fb, B'.H0 = H ∧ B'.K0 = ⟨lentK env σ Hk H, fun _ => none⟩ ∧ (∀ a, ¬ B'.io a) ∧ Rel K B' e2 σ ⟨lentK env σ Hk H, fun _ => none⟩ H := by
  refine ⟨⟨⟨lentK env σ Hk H, fun _ => none⟩, H, fun _ => none, fun _ => none, fun _ => False⟩, rfl, rfl, fun a z => z.elim (fun ⟨k, z⟩ => by cases z) id, ?_⟩
  obtain ⟨h1, h2⟩ := lentGo_ok R (B' := ⟨⟨lentK env σ Hk H, fun _ => none⟩, H, fun _ => none, fun _ => none, fun _ => False⟩) h (fun i s hi => by
    rw [List.getElem?_map] at hi
    obtain ⟨t, g1, rfl⟩ := Option.map_eq_some_iff.mp hi
    obtain ⟨o, g2, g3⟩ := R.slot i t g1
    refine ⟨(by cases t <;> exact fun z => z), (fun M z => (by cases t <;> cases z)), o, g2, fun p e => ?_, fun np => ?_⟩
    · cases t with
      | pv q =>
        cases e
        exact g3
      | _ => cases e
    · exact lent_slot R g1 g2 g3 fun p z => np p (by rw [z]; rfl)) (by rw [List.length_map]; exact R.len)
  refine ⟨lentK_ex R, .refl _, fun a h1 h2 => absurd h2 h1, fun a o h _ => h, (fun a z => z.elim (fun ⟨k, z⟩ => by cases z) fun z => z.elim), (fun a z => z.elim (fun ⟨k, z⟩ => by cases z) fun z => z.elim), h1, fun i s hi => (h2 i s hi).2.2, fun i j s t a hi _ hm => absurd hm (h2 i s hi).1, fun M hM => absurd rfl ((h2 _ _ hM).2.1 M), (fun n a z => by cases z), fun i s a n _ _ _ z => by cases z⟩
open Classical in
/-- known behind: what was known, and the tuples made meanwhile -/
noncomputable def tpK (Hk H H3 : Hp) : Hp := fun a => if Hk a ≠ none then Hk a else if H a = none then (match H3 a with
  | some (.tup xs) => some (.tup xs)
  | some (.frz u (.tup xs)) => some (.frz u (.tup xs))
  | _ => none) else none
mutual
theorem tpK_dv {Hk3 H3 : Hp} (e : Same Hk3 H3) (s : Same Hk Hk3) (hn : ∀ a, Hk3 a ≠ none → Hk a = none → H a = none ∨ ∃ o, H3 a = some o ∧ (∀ xs, o ≠ .tup xs) ∧ ∀ u xs, o ≠ .frz u (.tup xs)) : ∀ {v : V} {d : PyData}, Dv K Hk3 v d → noL d = true → Dv K (tpK Hk H H3) v d
  | _, _, .non, _ => .non
  | _, _, .bl b, _ => .bl b
  | _, _, .int i, _ => .int i
  | _, _, .str x, _ => .str x
  | _, _, .lst _ _, h => by simp [noL] at h
  | _, _, .dct _ _, h => by simp [noL] at h
  | _, _, .tup (a := a) h q, hl => by
    refine .tup ?_ (tpK_dvs e s hn q (by simpa [noL] using hl))
    rcases h with (h | ⟨u, h⟩) | h
    · refine .inl (.inl ?_)
      unfold tpK
      by_cases hk : Hk a = none
      · rcases hn _ (ne_none h) hk with z | ⟨o, z1, z2, _⟩
        · rw [if_neg (fun y => y hk), if_pos z, e _ _ h]
        · rw [e _ _ h] at z1
          exact absurd (Option.some.inj z1).symm (z2 _)
      · rw [if_pos hk]
        obtain ⟨o, ho⟩ := Option.ne_none_iff_exists'.mp hk
        rw [ho, ← s _ _ ho, h]
    · refine .inl (.inr ⟨u, ?_⟩)
      unfold tpK
      by_cases hk : Hk a = none
      · rcases hn _ (ne_none h) hk with z | ⟨o, z1, _, z2⟩
        · rw [if_neg (fun y => y hk), if_pos z, e _ _ h]
        · rw [e _ _ h] at z1
          exact absurd (Option.some.inj z1).symm (z2 _ _)
      · rw [if_pos hk]
        obtain ⟨o, ho⟩ := Option.ne_none_iff_exists'.mp hk
        rw [ho, ← s _ _ ho, h]
    · exact .inr h
theorem tpK_dvs {Hk3 H3 : Hp} (e : Same Hk3 H3) (s : Same Hk Hk3) (hn : ∀ a, Hk3 a ≠ none → Hk a = none → H a = none ∨ ∃ o, H3 a = some o ∧ (∀ xs, o ≠ .tup xs) ∧ ∀ u xs, o ≠ .frz u (.tup xs)) : ∀ {vs : List V} {ds : List PyData}, DvAll K Hk3 vs ds → noLs ds = true → DvAll K (tpK Hk H H3) vs ds
  | _, _, .nil, _ => .nil
  | _, _, .cons h1 h2, hl => by
    simp only [noLs, Bool.and_eq_true] at hl
    exact .cons (tpK_dv e s hn h1 hl.1) (tpK_dvs e s hn h2 hl.2)
end
theorem tpK_kvs {Hk3 H3 : Hp} (e : Same Hk3 H3) (s : Same Hk Hk3) (hn : ∀ a, Hk3 a ≠ none → Hk a = none → H a = none ∨ ∃ o, H3 a = some o ∧ (∀ xs, o ≠ .tup xs) ∧ ∀ u xs, o ≠ .frz u (.tup xs)) : ∀ {vs : List (Key × V)} {ds : List (PyData × PyData)}, DvKv K Hk3 vs ds → noLs (ds.map (·.2)) = true → DvKv K (tpK Hk H H3) vs ds
  | _, _, .nil, _ => .nil
  | _, _, .cons h1 h2, hl => by
    simp only [List.map_cons, noLs, Bool.and_eq_true] at hl
    exact .cons (tpK_dv e s hn h1 hl.1) (tpK_kvs e s hn h2 hl.2)
theorem lendS_run {is : List Nat} {m : ME} {Q : VK} (h : tE K (mLendS is m) σ H Q) : tE K m σ H Q := by
  obtain ⟨B, env, Hk, r, env', R, hm, k⟩ := h
  obtain ⟨e2, h1, hm⟩ := Option.bind_eq_some_iff.mp hm
  obtain ⟨⟨r1, e3⟩, h2, hm⟩ := Option.bind_eq_some_iff.mp hm
  by_cases hF : resFlat r1 = true
  · have hm : (if resFlat r1 = true then some (r1, env) else none) = some (r, env') := hm
    rw [if_pos hF] at hm
    cases hm
    obtain ⟨B', b1, b2, b3, R'⟩ := lent_rel R h1
    refine ⟨B', e2, _, r, e3, R', h2, fun v Hk3 H3 R3 s3 o3 => ?_⟩
    have sH : Same H H3 := fun a o e => R3.kp a o (by rw [b1]; exact e) (b3 a)
    have s1 : Same Hk.k Hk3.k := (lentK_same R).trans s3.s
    have hn : ∀ a, Hk3.k a ≠ none → Hk a = none → H a = none ∨ ∃ o, H3 a = some o ∧ (∀ xs, o ≠ .tup xs) ∧ ∀ u xs, o ≠ .frz u (.tup xs) := fun a h3 hk => by
      by_cases hl : lentK env σ Hk H a = none
      · refine .inl ?_
        have := R3.fr a h3 (by rw [b2]; exact hl)
        rw [b1] at this
        exact this
      · obtain ⟨o, g1, g2⟩ := lentK_new R hl hk
        exact .inr ⟨o, sH _ _ g1, g2⟩
    have sk : Same Hk.k (tpK Hk H H3) := fun a o e => by
      unfold tpK
      rw [if_pos (ne_none e)]
      exact e
    have R2 : Rel K B env σ ⟨tpK Hk H H3, Hk.P⟩ H3 := R.grow (Hk' := ⟨tpK Hk H H3, Hk.P⟩) sk (fun a o e => by
      have e : tpK Hk H H3 a = some o := e
      unfold tpK at e
      split at e
      · exact sH _ _ (R.ex _ _ e)
      · split at e
        · split at e
          · rename_i q; rw [q]; exact e
          · rename_i q; rw [q]; exact e
          · cases e
        · cases e) sH fun a g1 g2 => by
      have g1 : tpK Hk H H3 a ≠ none := g1
      unfold tpK at g1
      rw [if_neg (fun y => y g2)] at g1
      by_cases z : H a = none
      · exact z
      · rw [if_neg z] at g1
        exact absurd rfl g1
    refine k v ⟨tpK Hk H H3, Hk.P⟩ H3 R2 ⟨sk, fun _ _ z => z⟩ ?_
    cases r with
    | dat d => exact tpK_dv R3.ex s1 hn o3 hF
    | slt i => cases hF
    | pv p => cases hF
    | new c =>
      obtain ⟨p, rfl, w1, w2, w3, w6, w5⟩ := o3
      rw [b1] at w2
      have hkp : tpK Hk H H3 p = none := by
        unfold tpK
        rw [if_neg (fun y => y (R.kfree w2)), if_pos w2]
        cases c with
        | lst ds =>
          obtain ⟨vs, q1, _⟩ := w3
          rw [q1]
        | dct ds =>
          obtain ⟨vs, q1, _⟩ := w3
          rw [q1]
      refine ⟨p, rfl, hkp, R.fresh0 w2, ?_, R.pfree w2, fun j s hj hm => R.mutNe w2 hj hm⟩
      cases c with
      | lst ds =>
        obtain ⟨vs, q1, q2⟩ := w3
        exact ⟨vs, q1, tpK_dvs R3.ex s1 hn q2 hF⟩
      | dct ds =>
        obtain ⟨vs, q1, q2⟩ := w3
        exact ⟨vs, q1, tpK_kvs R3.ex s1 hn q2 hF⟩
  · have hm : (if resFlat r1 = true then some (r1, env) else none) = some (r, env') := hm
    rw [if_neg hF] at hm
    cases hm
theorem ve_lendS (is : List Nat) {e : Expr} {m : ME} (h : VE X e m) : VE X e (mLendS is m) := h.imp fun _ _ _ => lendS_run
end
end Cm
namespace Cm
open PySem L2
section
variable {X : Cx} {K : PySem.W.Frag} {B : Fb} {env env' : Sl} {σ : L2.St} {Hk Hk' : Kn} {H H' : Hp}
/-! ### places of the store: what lies there -/
theorem Rel.lstP (R : Rel K B env σ Hk H) {v : V} {n : Nat} {ps : List PV} (hv : PvOk K Hk v (.ref n)) (hc : (sto env)[n]? = some (.lst ps)) : ∃ a vs, v = .ref a ∧ Hk.P n = some a ∧ H a = some (.lst vs) ∧ PvAll K Hk vs ps := by
  obtain ⟨hS, a, g1, g2, g3⟩ := R.stoAt hc
  obtain ⟨vs, h1, h2⟩ := g2
  cases hv with
  | ref q =>
    rw [g1] at q
    cases q
    exact ⟨a, vs, rfl, g1, h1, h2⟩
theorem Rel.dctP (R : Rel K B env σ Hk H) {v : V} {n : Nat} {es : List (PyData × PV)} (hv : PvOk K Hk v (.ref n)) (hc : (sto env)[n]? = some (.dct es)) : ∃ a kvs, v = .ref a ∧ Hk.P n = some a ∧ H a = some (.dK kvs) ∧ PvKv K Hk kvs es := by
  obtain ⟨hS, a, g1, g2, g3⟩ := R.stoAt hc
  obtain ⟨vs, h1, h2⟩ := g2
  cases hv with
  | ref q =>
    rw [g1] at q
    cases q
    exact ⟨a, vs, rfl, g1, h1, h2⟩
theorem Rel.putL (R : Rel K B env σ Hk H) {n : Nat} {a : Addr} {ps ps' : List PV} {vs' : List V} (hc : (sto env)[n]? = some (.lst ps)) (hp : Hk.P n = some a) (h : PvAll K Hk vs' ps') : Rel K B (stoPut env ((sto env).set n (.lst ps'))) σ Hk (upd H a (.lst vs')) :=
  R.stoChange (hasSto_of hc) hc trivial trivial hp ⟨vs', upd_same, h⟩
theorem Rel.putD (R : Rel K B env σ Hk H) {n : Nat} {a : Addr} {es es' : List (PyData × PV)} {kvs' : List (Key × V)} (hc : (sto env)[n]? = some (.dct es)) (hp : Hk.P n = some a) (h : PvKv K Hk kvs' es') : Rel K B (stoPut env ((sto env).set n (.dct es'))) σ Hk (upd H a (.dK kvs')) :=
  R.stoChange (hasSto_of hc) hc trivial trivial hp ⟨kvs', upd_same, h⟩
/-! ### x[i] = v, x[k] = v -/
def setLP (M : List MC) (p : PV) (i : Int) (x : PV) : Option (List MC) := match p with
  | .ref n => match M[n]? with
    | some (.lst ps) => (ixN ps.length i).map fun j => M.set n (.lst (ps.set j x))
    | _ => none
  | _ => none
def setDP (M : List MC) (p : PV) (k : Key) (x : PV) : Option (List MC) := match p with
  | .ref n => match M[n]? with
    | some (.dct es) => if es.length < 100000 then some (M.set n (.dct (pvPut es k x))) else none
    | _ => none
  | _ => none
def mPsetL (me mo mi : ME) : MS := fun env => (mIn me env).bind fun x => (mo x.2).bind fun o => (mi o.2).bind fun i => (pvR x.1).bind fun px => (pvR o.1).bind fun po => match i.1 with
  | .dat (.int k) => (setLP (sto i.2) po k px).map fun M => (.nx, stoPut i.2 M)
  | _ => none
def mPsetD (me mo mi : ME) : MS := fun env => (mIn me env).bind fun x => (mo x.2).bind fun o => (mi o.2).bind fun i => (pvR x.1).bind fun px => (pvR o.1).bind fun po => match i.1 with
  | .dat d => (keyOf d).bind fun k => (setDP (sto i.2) po k px).map fun M => (.nx, stoPut i.2 M)
  | _ => none
theorem psetL_run {me mo mi : ME} {W : WX} {D : Ends} (h : tS K W (mPsetL me mo mi) D σ H) : tAsg (tE K (mIn me)) (gSub (tE K mo) (tE K mi) L2.rSetL) D σ H := by
  obtain ⟨B, env, Hk, f, env', R, hm, k⟩ := h
  obtain ⟨⟨x, e1⟩, h1, hm⟩ := Option.bind_eq_some_iff.mp hm
  obtain ⟨⟨o, e2⟩, h2, hm⟩ := Option.bind_eq_some_iff.mp hm
  obtain ⟨⟨i, e3⟩, h3, hm⟩ := Option.bind_eq_some_iff.mp hm
  obtain ⟨px, h4, hm⟩ := Option.bind_eq_some_iff.mp hm
  obtain ⟨po, h5, hm⟩ := Option.bind_eq_some_iff.mp hm
  cases i with
  | dat d =>
    cases d with
    | int ki =>
      obtain ⟨M, h6, hm⟩ := Option.map_eq_some_iff.mp hm
      cases hm
      refine ⟨B, env, Hk, x, e1, R, h1, fun v Hk1 H1 R1 s1 o1 => ?_⟩
      refine ⟨B, e1, Hk1, o, e2, R1, h2, fun w Hk2 H2 R2 s2 o2 => ?_⟩
      refine ⟨B, e2, Hk2, _, e3, R2, h3, fun u Hk3 H3 R3 s3 o3 => ?_⟩
      cases o3
      cases po with
      | ref n =>
        unfold setLP at h6
        cases hc : (sto e3)[n]? with
        | none => simp only [hc] at h6; cases h6
        | some c =>
          cases c with
          | lst ps =>
            simp only [hc] at h6
            obtain ⟨j, h7, rfl⟩ := Option.map_eq_some_iff.mp h6
            obtain ⟨a, vs, rfl, g1, g2, g3⟩ := R3.lstP ((o2.pvR h5).mono s3) hc
            refine ⟨a, vs, ki, j, rfl, rfl, g2, by rw [g3.len]; exact h7, ?_⟩
            exact k σ Hk3 _ (R3.putL hc g1 (g3.set (((o1.pvR h4).mono s2).mono s3) j)) ((s1.trans s2).trans s3)
          | _ => simp only [hc] at h6; cases h6
      | _ => cases h6
    | _ => cases hm
  | _ => cases hm
theorem psetD_run {me mo mi : ME} {W : WX} {D : Ends} (h : tS K W (mPsetD me mo mi) D σ H) : sDPut (tE K mo) (tE K mi) (tE K (mIn me)) D σ H := by
  obtain ⟨B, env, Hk, f, env', R, hm, k⟩ := h
  obtain ⟨⟨x, e1⟩, h1, hm⟩ := Option.bind_eq_some_iff.mp hm
  obtain ⟨⟨o, e2⟩, h2, hm⟩ := Option.bind_eq_some_iff.mp hm
  obtain ⟨⟨i, e3⟩, h3, hm⟩ := Option.bind_eq_some_iff.mp hm
  obtain ⟨px, h4, hm⟩ := Option.bind_eq_some_iff.mp hm
  obtain ⟨po, h5, hm⟩ := Option.bind_eq_some_iff.mp hm
  cases i with
  | dat d =>
    obtain ⟨kk, h7, hm⟩ := Option.bind_eq_some_iff.mp hm
    obtain ⟨M, h6, hm⟩ := Option.map_eq_some_iff.mp hm
    cases hm
    refine ⟨B, env, Hk, x, e1, R, h1, fun v Hk1 H1 R1 s1 o1 => ?_⟩
    refine ⟨B, e1, Hk1, o, e2, R1, h2, fun w Hk2 H2 R2 s2 o2 => ?_⟩
    refine ⟨B, e2, Hk2, _, e3, R2, h3, fun u Hk3 H3 R3 s3 o3 => ?_⟩
    cases po with
    | ref n =>
      unfold setDP at h6
      cases hc : (sto e3)[n]? with
      | none => simp only [hc] at h6; cases h6
      | some c =>
        cases c with
        | dct es =>
          simp only [hc] at h6
          split at h6
          · rename_i hl
            cases h6
            obtain ⟨a, kvs, rfl, g1, g2, g3⟩ := R3.dctP ((o2.pvR h5).mono s3) hc
            rw [key_V o3 h7]
            refine ⟨a, _, rfl, .inl ⟨kvs, kk, g2, rfl, by rw [pvKv_len g3]; exact Nat.lt_of_lt_of_le hl (by decide), rfl⟩, ?_⟩
            exact k σ Hk3 _ (R3.putD hc g1 (pvKv_put kk (((o1.pvR h4).mono s2).mono s3) g3)) ((s1.trans s2).trans s3)
          · cases h6
        | _ => simp only [hc] at h6; cases h6
    | _ => cases h6
  | _ => cases hm
theorem vs_psetL {o ix e : Expr} {me mo mi : ME} {tpos pos : Pos} (he : VE X e me) (ho : VE X o mo) (hi : VE X ix mi)
    (ha : ∀ v, assign (.Subscript o ix tpos) X.env v = (do
      let ov ← holding [v] (eval o X.env)
      let iv ← holding [v, ov] (eval ix X.env)
      standAt tpos
      holding [v, ov, iv] (setItem ov iv v)
      release [v, ov, iv] []) := by intro _; rfl) (hs : swapsWithSole [.Subscript o ix tpos] e pos.line X.env = pure false := by rfl) (hw : swappedStores [.Subscript o ix tpos] e X.env = pure none := by rfl)
    (h1 : (assignEach [.Subscript o ix tpos] X.env).map (·.2) = [assign (.Subscript o ix tpos) X.env] := by rfl) : VS X (.Assign [.Subscript o ix tpos] e pos) (mPsetL me mo mi) :=
  fun W _ => (ps_asg (ve_in he) (pg_sub ho hi set_list ha) hs hw h1).imp fun _ _ _ => psetL_run
theorem vs_psetD {o ix e : Expr} {me mo mi : ME} {tpos pos : Pos} (hu : X.A.units + 64 < cLine) (he : VE X e me) (ho : VE X o mo) (hi : VE X ix mi) (hs : swapsWith e (some (.Subscript o ix tpos)) pos.line X.env = pure false := by rfl) : VS X (.Assign [.Subscript o ix tpos] e pos) (mPsetD me mo mi) :=
  fun W _ => (ps_dput (by omega) ho hi (ve_in he) hs).imp fun _ _ _ => psetD_run
/-! ### methods of lists -/
def pvRs : List Res → Option (List PV)
  | [] => some []
  | r :: rs => (pvR r).bind fun p => (pvRs rs).map (p :: ·)
theorem RsAll.pvs : ∀ {rs : List Res} {vs : List V} {ps : List PV}, RsAll K σ Hk rs vs → pvRs rs = some ps → PvAll K Hk vs ps
  | _, _, _, .nil, h => by
    cases h
    exact .nil
  | _, _, _, .cons h1 h2, h => by
    obtain ⟨p, g1, h⟩ := Option.bind_eq_some_iff.mp h
    obtain ⟨ps, g2, rfl⟩ := Option.map_eq_some_iff.mp h
    exact .cons (h1.pvR g1) (RsAll.pvs h2 g2)
def isLP (M : List MC) : PV → Bool
  | .ref n => match M[n]? with
    | some (.lst _) => true
    | _ => false
  | _ => false
abbrev GM := List MC → PV → List PV → Option (PV × List MC)
def mPM (g : GM) (mo : ME) (ms : MA) : ME := fun env => (mo env).bind fun o => (pvR o.1).bind fun x => if isLP (sto o.2) x = true then (ms o.2).bind fun p => (pvRs p.1).bind fun ps => (g (sto p.2) x ps).map fun z => (.pv z.1, stoPut p.2 z.2) else none
def PMt (K : PySem.W.Frag) (r : V → List V → Hp → VK → Prop) (g : GM) : Prop := ∀ {B : Fb} {env : Sl} {σ : L2.St} {Hk : Kn} {H : Hp} {x : V} {vs : List V} {p : PV} {ps : List PV} {z : PV × List MC} {Q : VK}, Rel K B env σ Hk H → PvOk K Hk x p → PvAll K Hk vs ps → g (sto env) p ps = some z →
  (∀ v H', Rel K B (stoPut env z.2) σ Hk H' → PvOk K Hk v z.1 → Q v H') → r x vs H Q
theorem pm_run {g : GM} {r : V → List V → Hp → VK → Prop} (hg : PMt K r g) {mo : ME} {ms : MA} {Q : VK} (h : tE K (mPM g mo ms) σ H Q) : tBM K "list" r (tE K mo) (tA K ms) σ H Q := by
  obtain ⟨B, env, Hk, res, env', R, hm, k⟩ := h
  obtain ⟨⟨o, e1⟩, h1, hm⟩ := Option.bind_eq_some_iff.mp hm
  obtain ⟨x, h2, hm⟩ := Option.bind_eq_some_iff.mp hm
  by_cases hT : isLP (sto e1) x = true
  · have hm : (if isLP (sto e1) x = true then _ else _) = some (res, env') := hm
    rw [if_pos hT] at hm
    obtain ⟨⟨rs, e2⟩, h3, hm⟩ := Option.bind_eq_some_iff.mp hm
    obtain ⟨ps, h4, hm⟩ := Option.bind_eq_some_iff.mp hm
    obtain ⟨z, h5, hm⟩ := Option.map_eq_some_iff.mp hm
    cases hm
    refine ⟨B, env, Hk, o, e1, R, h1, fun v Hk1 H1 R1 s1 o1 => ?_⟩
    have ox := o1.pvR h2
    refine ⟨?_, B, e1, Hk1, rs, e2, R1, h3, fun vs Hk2 H2 R2 s2 o2 => ?_⟩
    · cases x with
      | ref n =>
        unfold isLP at hT
        cases hc : (sto e1)[n]? with
        | none => simp only [hc] at hT; cases hT
        | some c =>
          cases c with
          | lst ps =>
            obtain ⟨a, vs, rfl, _, g2, _⟩ := R1.lstP ox hc
            exact .inl ⟨rfl, vs, SqL.of g2⟩
          | _ => simp only [hc] at hT; cases hT
      | _ => cases hT
    · exact hg R2 (ox.mono s2) (o2.pvs h4) h5 fun u H' R' q => k u Hk2 H' R' (s1.trans s2) q
  · have hm : (if isLP (sto e1) x = true then _ else _) = some (res, env') := hm
    rw [if_neg hT] at hm
    cases hm
theorem pm0_run {g : GM} {r : V → List V → Hp → VK → Prop} (hg : PMt K r g) {mo : ME} {Q : VK} (h : tE K (mPM g mo mNil) σ H Q) : tBM0 K "list" r (tE K mo) σ H Q := by
  obtain ⟨B, env, Hk, res, env', R, hm, k⟩ := pm_run hg h
  refine ⟨B, env, Hk, res, env', R, hm, fun v Hk1 H1 R1 s1 o1 => ?_⟩
  obtain ⟨ty, B2, env2, Hk2, rs, env3, R2, hm2, k2⟩ := k v Hk1 H1 R1 s1 o1
  cases hm2
  exact ⟨ty, k2 [] Hk2 H1 R2 (.refl _) .nil⟩
theorem ve_pm {e o : Expr} {es : List Expr} {mo : ME} {ms : MA} {g : GM} {name : Str} {id : String} {r : V → List V → Hp → VK → Prop} {apos cpos : Pos} (slot : PySem.Slot "list" name id) (hty : typeOf (.builtin id) = pure (.type "method_descriptor")) (hm : MtR X id r) (hg : PMt X.K r g) (ho : VE X o mo) (ha : VA X (e :: es) ms)
    (hbase : attributeBase o name X.env (eval o X.env) = eval o X.env := by rfl)
    (hfew : ((backTo cpos (starEach (e :: es) X.env)).all (fun x => !x.1) && (backToKw cpos (keywordEach [] X.env)).all (fun x => x.1.isSome)
      && decide ((e :: es).length + ([] : List Keyword).length + (if ([] : List Keyword).isEmpty then 0 else 1) < 30)) = true := by rfl)
    (hline : (apos.endLine == cpos.line) = true := by rfl) (hs : starEach (e :: es) X.env = (false, eval e X.env) :: starEach es X.env := by rfl) (hplain : (backTo cpos (starEach es X.env)).any (·.1) = false := by rfl) :
    VE X (.Call (.Attribute o name apos) (e :: es) [] cpos) (mPM g mo ms) := (pe_bm PySem.F.plainAttrs_list slot hty hm ho ha hbase hfew hline hs hplain).imp fun _ _ _ => pm_run hg
theorem ve_pm0 {o : Expr} {mo : ME} {g : GM} {name : Str} {id : String} {r : V → List V → Hp → VK → Prop} {apos cpos : Pos} (slot : PySem.Slot "list" name id) (hty : typeOf (.builtin id) = pure (.type "method_descriptor")) (hm : MtR X id r) (hg : PMt X.K r g) (ho : VE X o mo)
    (hbase : attributeBase o name X.env (eval o X.env) = eval o X.env := by rfl) (hline : (apos.endLine == cpos.line) = true := by rfl) :
    VE X (.Call (.Attribute o name apos) [] [] cpos) (mPM g mo mNil) := (pe_bm0 PySem.F.plainAttrs_list slot hty hm ho hbase hline).imp fun _ _ _ => pm0_run hg
/-- .append(x), .reverse(), .pop(), .pop(i), .clear() -/
def gAppP : GM := fun M p xs => match p, xs with
  | .ref n, [x] => match M[n]? with
    | some (.lst ps) => if ps.length < 100000 then some (.dat .none, M.set n (.lst (ps ++ [x]))) else none
    | _ => none
  | _, _ => none
def gRevP : GM := fun M p xs => match p, xs with
  | .ref n, [] => match M[n]? with
    | some (.lst ps) => some (.dat .none, M.set n (.lst ps.reverse))
    | _ => none
  | _, _ => none
def gClrP : GM := fun M p xs => match p, xs with
  | .ref n, [] => match M[n]? with
    | some (.lst ps) => some (.dat .none, M.set n (.lst []))
    | _ => none
  | _, _ => none
def gPopP : GM := fun M p xs => match p, xs with
  | .ref n, [] => match M[n]? with
    | some (.lst ps) => (ps[ps.length - 1]?).map fun y => (y, M.set n (.lst ps.dropLast))
    | _ => none
  | _, _ => none
def gPopAtP : GM := fun M p xs => match p, xs with
  | .ref n, [.dat (.int i)] => match M[n]? with
    | some (.lst ps) => if -(2 ^ 63) ≤ i ∧ i < 2 ^ 63 then (seqIndex? i ps.length).bind fun k => (ps[k]?).map fun y => (y, M.set n (.lst (ps.eraseIdx k))) else none
    | _ => none
  | _, _ => none
theorem PvAll.dropLast : ∀ {vs : List V} {ps : List PV}, PvAll K Hk vs ps → PvAll K Hk vs.dropLast ps.dropLast := fun {vs ps} h => by
  rw [List.dropLast_eq_take, List.dropLast_eq_take, h.len]
  exact h.take _
theorem pm_app : PMt K rAppend gAppP := by
  intro B env σ Hk H x vs p ps z Q R hx hs h q
  unfold gAppP at h
  split at h
  · rename_i n y
    split at h
    · rename_i ps hc
      split at h
      · rename_i hl
        cases h
        obtain ⟨a, ws, rfl, g1, g2, g3⟩ := R.lstP hx hc
        cases hs with
        | cons h1 h2 =>
          cases h2
          exact ⟨a, ws, _, rfl, rfl, g2, by rw [g3.len]; exact Nat.lt_of_lt_of_le hl (by decide), q _ _ (R.putL hc g1 (g3.append (.cons h1 .nil))) (.dat .non)⟩
      · cases h
    · cases h
  · cases h
theorem pm_rev : PMt K rReverse gRevP := by
  intro B env σ Hk H x vs p ps z Q R hx hs h q
  unfold gRevP at h
  split at h
  · rename_i n
    split at h
    · rename_i ps hc
      cases h
      obtain ⟨a, ws, rfl, g1, g2, g3⟩ := R.lstP hx hc
      cases hs
      exact ⟨a, ws, rfl, rfl, g2, q _ _ (R.putL hc g1 g3.rev) (.dat .non)⟩
    · cases h
  · cases h
theorem pm_clr : PMt K rClear gClrP := by
  intro B env σ Hk H x vs p ps z Q R hx hs h q
  unfold gClrP at h
  split at h
  · rename_i n
    split at h
    · rename_i ps hc
      cases h
      obtain ⟨a, ws, rfl, g1, g2, g3⟩ := R.lstP hx hc
      cases hs
      exact ⟨a, ws, rfl, rfl, g2, q _ _ (R.putL hc g1 .nil) (.dat .non)⟩
    · cases h
  · cases h
theorem pm_pop : PMt K rPop gPopP := by
  intro B env σ Hk H x vs p ps z Q R hx hs h q
  unfold gPopP at h
  split at h
  · rename_i n
    split at h
    · rename_i ps hc
      obtain ⟨y, h1, rfl⟩ := Option.map_eq_some_iff.mp h
      obtain ⟨a, ws, rfl, g1, g2, g3⟩ := R.lstP hx hc
      cases hs
      obtain ⟨v, w1, w2⟩ := g3.get _ y h1
      exact ⟨a, ws, v, rfl, rfl, g2, by rw [g3.len]; exact w1, q _ _ (R.putL hc g1 g3.dropLast) w2⟩
    · cases h
  · cases h
theorem pm_popAt : PMt K rPopAt gPopAtP := by
  intro B env σ Hk H x vs p ps z Q R hx hs h q
  unfold gPopAtP at h
  split at h
  · rename_i n i
    split at h
    · rename_i ps hc
      split at h
      · rename_i hi
        obtain ⟨k, h0, h⟩ := Option.bind_eq_some_iff.mp h
        obtain ⟨y, h1, rfl⟩ := Option.map_eq_some_iff.mp h
        obtain ⟨a, ws, rfl, g1, g2, g3⟩ := R.lstP hx hc
        cases hs with
        | cons hd tl =>
          cases tl
          cases hd with
          | dat hd =>
            cases hd
            obtain ⟨v, w1, w2⟩ := g3.get _ y h1
            exact ⟨a, ws, i, k, v, rfl, rfl, g2, hi.1, hi.2, by rw [g3.len]; exact h0, w1, q _ _ (R.putL hc g1 (g3.erase k)) w2⟩
      · cases h
    · cases h
  · cases h
/-! ### displays -/
def mPtup (ms : MA) : ME := fun env => (ms env).bind fun p => (pvRs p.1).bind fun ps => if ps.length ≤ 100000 then some (.pv (.tup ps), p.2) else none
def mPlst (ms : MA) : ME := fun env => (ms env).bind fun p => (pvRs p.1).bind fun ps => match p.2[p.2.length - 1]? with
  | some (.sto M) => if ps.length ≤ 100000 then some (.pv (.ref M.length), stoPut p.2 (M ++ [.lst ps])) else none
  | _ => none
theorem ptup_run {ms : MA} {Q : VK} (h : tE K (mPtup ms) σ H Q) : tTup (tA K ms) σ H Q := by
  obtain ⟨B, env, Hk, res, env', R, hm, k⟩ := h
  obtain ⟨⟨rs, e1⟩, h1, hm⟩ := Option.bind_eq_some_iff.mp hm
  obtain ⟨ps, h2, hm⟩ := Option.bind_eq_some_iff.mp hm
  by_cases hl : ps.length ≤ 100000
  · have hm : (if ps.length ≤ 100000 then _ else _) = some (res, env') := hm
    rw [if_pos hl] at hm
    cases hm
    refine ⟨B, env, Hk, rs, e1, R, h1, fun vs Hk1 H1 R1 s1 o1 => ?_⟩
    have da := o1.pvs h2
    refine ⟨by rw [da.len]; exact sz_of hl, fun p hp => ?_⟩
    have sm := ksame_upd (Hk := Hk1) (o := .tup vs) (R1.kfree hp)
    exact k _ (Hk1.upd p (.tup vs)) _ (R1.laidK hp) (s1.trans sm) (.tup (SqT.of (show upd Hk1.k p _ p = _ from upd_same)) (da.mono sm))
  · have hm : (if ps.length ≤ 100000 then _ else _) = some (res, env') := hm
    rw [if_neg hl] at hm
    cases hm
theorem plst_run {ms : MA} {Q : VK} (h : tE K (mPlst ms) σ H Q) : tLst (tA K ms) σ H Q := by
  obtain ⟨B, env, Hk, res, env', R, hm, k⟩ := h
  obtain ⟨⟨rs, e1⟩, h1, hm⟩ := Option.bind_eq_some_iff.mp hm
  obtain ⟨ps, h2, hm⟩ := Option.bind_eq_some_iff.mp hm
  dsimp only at hm
  split at hm
  · rename_i M hS
    by_cases hl : ps.length ≤ 100000
    · rw [if_pos hl] at hm
      cases hm
      refine ⟨B, env, Hk, rs, e1, R, h1, fun vs Hk1 H1 R1 s1 o1 => ?_⟩
      have da := o1.pvs h2
      refine ⟨by rw [da.len]; exact sz_of hl, fun p hp => ?_⟩
      have R2 : Rel K B e1 σ Hk1 (upd H1 p (.lst vs)) := R1.laid hp
      obtain ⟨R3, s3, q3⟩ := R2.stoTake (M := M) hS (R1.kfree hp) (R1.fresh0 hp) (R1.pfree hp) (fun j s hj hm => R1.mutNe hp hj hm) (c := .lst ps) ⟨vs, upd_same, da⟩ trivial
      exact k _ _ _ R3 (s1.trans s3) q3
    · rw [if_neg hl] at hm
      cases hm
  · cases hm
theorem ve_ptup {es : List Expr} {ms : MA} {x1} {pos : Pos} (h : VA X es ms) : VE X (.Tuple es x1 pos) (mPtup ms) := (pe_tup h).imp fun _ _ _ => ptup_run
theorem ve_plst {es : List Expr} {ms : MA} {pos : Pos} (h : VA X es ms) : VE X (.List es pos) (mPlst ms) := (pe_lst h).imp fun _ _ _ => plst_run
end
end Cm
namespace Cm
open PySem L2
/-! ### walks over what the store holds -/
abbrev MGP := PV → Sl → Option Sl
abbrev Gd := Sl → Prop
abbrev MIP := Sl → Option ((List PV × Gd) × Sl)
def tGP (K : PySem.W.Frag) (js : List Nat) (mg : MGP) : TG := fun v σ H Q => ∃ B env Hk p env', Rel K B env σ Hk H ∧ PvOk K Hk v p ∧ mg p env = some env' ∧
  ∀ σ' Hk' H', Rel K B env' σ' Hk' H' → KSame Hk Hk' → (∀ i, i ∉ js → σ'[i]? = σ[i]?) → σ'.length = σ.length → Q σ' H'
def IterOkP (K : PySem.W.Frag) (Hk0 : Kn) (G : Gd) (J : It) (ps : List PV) : Prop := ∀ {B : Fb} {env : Sl} {σ : L2.St} {Hk : Kn} {H : Hp}, Rel K B env σ Hk H → KSame Hk0 Hk → G env →
  ∀ i, (∀ p, ps[i]? = some p → J.go i H ∧ ∀ x H', J.yld i H x H' → ∃ Hk' : Kn, Rel K B env σ Hk' H' ∧ KSame Hk Hk' ∧ PvOk K Hk' x p) ∧ (ps.length ≤ i → J.stop i H)
def tIP (K : PySem.W.Frag) (m : MIP) : TI := fun σ H R => ∃ B env Hk q env', Rel K B env σ Hk H ∧ m env = some (q, env') ∧
  ∀ J Hk' H', Rel K B env' σ Hk' H' → KSame Hk Hk' → IterOkP K Hk' q.2 J q.1 → R J H'
open Classical in
noncomputable def forPL (G : Gd) (g : MGP) (b : MS) : List PV → Sl → Option (Fl × Sl)
  | [], e => if G e then some (.nx, e) else none
  | d :: ds, e => if G e then (g d e).bind fun e1 => (b e1).bind fun q => match q.1 with
    | .nx => forPL G g b ds q.2
    | .ct => forPL G g b ds q.2
    | .bk => some (.nx, q.2)
    | .rt r => some (.rt r, q.2)
    | .ex C fs => some (.ex C fs, q.2) else none
noncomputable def mForP (mi : MIP) (g : MGP) (b : MS) : MS := fun env => (mi env).bind fun p => forPL p.1.2 g b p.1.1 p.2
open Classical in
noncomputable def lcPL (G : Gd) (g : MGP) (t : MT) (me : ME) (vs : List Nat) : List PV → Sl → List PV → Option (List PV × Sl)
  | [], e, acc => if G e then some (acc, e) else none
  | d :: ds, e, acc => if G e then (g d e).bind fun e1 => (t e1).bind fun p => if p.1 = true then (mIn me p.2).bind fun q => match q.1 with
    | .pv x => lcPL G g t me vs ds (wipeS q.2 vs) (acc ++ [x])
    | _ => none else lcPL G g t me vs ds (wipeS p.2 vs) acc else none
/-- into the store, or data -/
def lcEnd (st : Bool) (acc : List PV) (e : Sl) : Option (Res × Sl) := if st = true then (match e[e.length - 1]? with
    | some (.sto M) => some (.pv (.ref M.length), stoPut e (M ++ [.lst acc]))
    | _ => none) else (datsP acc).map fun ds => (.new (.lst ds), e)
noncomputable def mLcP (st : Bool) (mi : MIP) (g : MGP) (t : MT) (me : ME) (vs : List Nat) : ME := fun env => (mi env).bind fun p => if p.1.1.length ≤ 100000 then (lcPL p.1.2 g t me vs p.1.1 (wipeS p.2 vs) []).bind fun q => lcEnd st q.1 q.2 else none
section
variable {X : Cx} {K : PySem.W.Frag} {B : Fb} {env env' : Sl} {σ : L2.St} {Hk Hk' : Kn} {H H' : Hp} {js : List Nat} {g : MGP} {b : MS} {mi : MIP} {t : MT} {me : ME} {pos : Pos}
theorem forP_run {W : WX} {D : Ends} (h : tS K W (mForP mi g b) D σ H) : tFor (tIP K mi) (tGP K js g) (tS K W b) D σ H := by
  obtain ⟨B, env, Hk, f, env', R, hm, k⟩ := h
  obtain ⟨⟨⟨ds, G⟩, e1⟩, h1, hm⟩ := Option.bind_eq_some_iff.mp hm
  refine ⟨B, env, Hk, (ds, G), e1, R, h1, fun J Hk1 H1 R1 s1 it => ?_⟩
  refine ⟨fun i m σ H => m = ds.length - i ∧ ∃ e, ∃ Hk2 : Kn, Rel K B e σ Hk2 H ∧ KSame Hk1 Hk2 ∧ forPL G g b (ds.drop i) e = some (f, env'), ⟨ds.length, by simp, e1, Hk1, R1, .refl _, hm⟩, ?_⟩
  rintro i m σ2 H2 ⟨rfl, e, Hk2, R2, s2, hf⟩
  cases hd : ds.drop i with
  | nil =>
    rw [hd] at hf
    unfold forPL at hf
    split at hf
    · rename_i hG
      cases hf
      exact .inl ⟨(it R2 s2 hG i).2 (List.drop_eq_nil_iff.mp hd), k σ2 Hk2 H2 R2 (s1.trans s2)⟩
    · cases hf
  | cons d r =>
    rw [hd] at hf
    unfold forPL at hf
    split at hf
    · rename_i hG
      obtain ⟨hi, hr, hlt⟩ := drop_cons hd
      obtain ⟨gi, yi⟩ := (it R2 s2 hG i).1 d hi
      obtain ⟨e2, g1, hf⟩ := Option.bind_eq_some_iff.mp hf
      obtain ⟨⟨f1, e3⟩, g2, hf⟩ := Option.bind_eq_some_iff.mp hf
      refine .inr ⟨gi, fun σ' H' => ∃ e, ∃ Hk2 : Kn, Rel K B e σ' Hk2 H' ∧ KSame Hk1 Hk2 ∧ forPL G g b (ds.drop (i + 1)) e = some (f, env'), fun σ' H' w => ⟨ds.length - (i + 1), by omega, rfl, w⟩, fun x H' y => ?_⟩
      obtain ⟨Hk3, R3, s3, o3⟩ := yi x H' y
      refine ⟨B, e, Hk3, d, e2, R3, o3, g1, fun σ3 Hk4 H4 R4 s4 _ _ => ?_⟩
      refine ⟨B, e2, Hk4, f1, e3, R4, g2, fun σ4 Hk5 H5 R5 s5 => ?_⟩
      have sm := ((s2.trans s3).trans s4).trans s5
      cases f1 with
      | nx =>
        refine ⟨e3, Hk5, R5, sm, ?_⟩
        rw [hr]
        exact hf
      | ct =>
        refine ⟨e3, Hk5, R5, sm, ?_⟩
        rw [hr]
        exact hf
      | bk =>
        cases hf
        exact k σ4 Hk5 H5 R5 (s1.trans sm)
      | rt r =>
        cases hf
        exact k σ4 Hk5 H5 R5 (s1.trans sm)
      | ex C fs =>
        cases hf
        exact k σ4 Hk5 H5 R5 (s1.trans sm)
    · cases hf
abbrev VIP (X : Cx) (tg e : Expr) (m : MIP) : Prop := PI X tg e (tIP X.K m)
abbrev VGP (X : Cx) (e : Expr) (js : List Nat) (mg : MGP) : Prop := PG X e (tGP X.K js mg)
theorem vs_forP {tg iter : Expr} {body : List Stmt} (hp : PassesOwn (model X.prog X.w) X.A X.env X.xe) (hi : VIP X tg iter mi) (hg : VGP X tg js g) (hb : VSs X body b) (hc : X.calm = true := by rfl)
    (hs : ∀ x, foldedSetIterable iter X.env x = pure x := by intro _; rfl) : VS X (.For tg iter body [] pos) (mForP mi g b) := fun W t => (ps_for hp hc hi hg (hb W t) hs).imp fun _ _ _ => forP_run
/-! sources -/
/-- a list of the store, which stays meanwhile -/
def mItP (m : ME) : MIP := fun env => (m env).bind fun p => match p.1 with
  | .pv (.ref n) => match (sto p.2)[n]? with
    | some (.lst ps) => some ((ps, fun e => (sto e)[n]? = some (.lst ps)), p.2)
    | _ => none
  | _ => none
/-- any source of data -/
def mItDat (mi : MI) : MIP := fun env => (mi env).map fun p => ((p.1.map .dat, fun _ => True), p.2)
theorem itP_run {m : ME} {R : It → Hp → Prop} (h : tIP K (mItP m) σ H R) : iList K (tE K m) σ H R := by
  obtain ⟨B, env, Hk, q, env', R0, hm, k⟩ := h
  obtain ⟨⟨r, e1⟩, h1, hm⟩ := Option.bind_eq_some_iff.mp hm
  refine ⟨B, env, Hk, r, e1, R0, h1, fun v Hk1 H1 R1 s1 o1 => ?_⟩
  cases r with
  | pv p =>
    cases p with
    | ref n =>
      cases hc : (sto e1)[n]? with
      | none => simp only [hc] at hm; cases hm
      | some c =>
        cases c with
        | lst ps =>
          simp only [hc] at hm
          cases hm
          obtain ⟨a, vs, rfl, g1, g2, g3⟩ := R1.lstP o1 hc
          refine ⟨a, rfl, ⟨vs, SqL.of g2⟩, k _ Hk1 H1 R1 s1 ?_⟩
          intro B2 env2 σ2 Hk2 H2 R2 s2 hG i
          obtain ⟨b, ws, e1, w1, w2, w3⟩ := R2.lstP (v := .ref a) (.ref (s2.p _ _ g1)) hG
          cases e1
          refine ⟨fun p hp => ?_, fun hl => ⟨ws, SqL.of w2, by rw [w3.len]; exact hl⟩⟩
          obtain ⟨u, z1, z2⟩ := w3.get i p hp
          refine ⟨⟨ws, u, SqL.of w2, z1⟩, fun x H' y => ?_⟩
          obtain ⟨rfl, y⟩ := y
          have := y ws (SqL.of w2)
          rw [z1] at this
          cases this
          exact ⟨Hk2, R2, .refl _, z2⟩
        | _ => simp only [hc] at hm; cases hm
    | _ => cases hm
  | _ => cases hm
theorem itDat_run {mi : MI} {R : It → Hp → Prop} (h : tIP K (mItDat mi) σ H R) : tI K mi σ H R := by
  obtain ⟨B, env, Hk, q, env', R0, hm, k⟩ := h
  obtain ⟨⟨ds, e1⟩, h1, hm⟩ := Option.map_eq_some_iff.mp hm
  cases hm
  refine ⟨B, env, Hk, ds, _, R0, h1, fun J Hk1 H1 R1 s1 it => k J Hk1 H1 R1 s1 ?_⟩
  intro B2 env2 σ2 Hk2 H2 R2 s2 _ i
  obtain ⟨go, stop⟩ := it Hk2 H2 s2.s R2.ex i
  refine ⟨fun p hp => ?_, fun hl => stop (by rw [List.length_map] at hl; exact hl)⟩
  rw [List.getElem?_map] at hp
  obtain ⟨d, h2, rfl⟩ := Option.map_eq_some_iff.mp hp
  obtain ⟨gi, yi⟩ := go d h2
  refine ⟨gi, fun x H' y => ?_⟩
  obtain ⟨Hk3, R3, s3, o3⟩ := R2.out (yi x H' y)
  exact ⟨Hk3, R3, s3, .dat o3⟩
theorem vi_P {tg e : Expr} {m : ME} (h : VE X e m) : VIP X tg e (mItP m) := (pi_list h).imp fun _ _ _ => itP_run
theorem vi_D {tg e : Expr} {mi : MI} (h : VI X tg e mi) : VIP X tg e (mItDat mi) := h.imp fun _ _ _ => itDat_run
/-! targets -/
def mgPName (j : Nat) : MGP := fun p env => some (env.set j (.pv p))
def mgOfD (g : MG) : MGP := fun p env => match p with
  | .dat d => g d env
  | _ => none
theorem gnameP_run {j : Nat} {v : V} {Q : L2.St → Hp → Prop} (h : tGP K [j] (mgPName j) v σ H Q) : gName j v σ H Q := by
  obtain ⟨B, env, Hk, d, env', R, hd, hm, k⟩ := h
  cases hm
  exact k _ _ _ (R.setPv hd) (.refl _) (fun i hi => List.getElem?_set_ne (fun z => hi (by simp [z]))) (List.length_set)
theorem gOfD_run {g : MG} {v : V} {Q : L2.St → Hp → Prop} (h : tGP K js (mgOfD g) v σ H Q) : tG K js g v σ H Q := by
  obtain ⟨B, env, Hk, p, env', R, hd, hm, k⟩ := h
  cases p with
  | dat d =>
    cases hd with
    | dat hd => exact ⟨B, env, Hk, d, env', R, hd, hm, k⟩
  | _ => cases hm
theorem vgP_name {j : Nat} {x : Str} (hN : X.N.Nodup) (hi : X.N[j]? = some x := by rfl) (hx : Loc X.env.scope x := by first | exact Or.inl rfl | exact Or.inr rfl) (hf : X.fn x = true ∨ X.env.scope.names.lookup x = some .local := by first | exact .inl rfl | exact .inr rfl | assumption) : VGP X (.Name x pos) [j] (mgPName j) :=
  (pg_name hN hi hx hf).imp fun _ _ _ _ => gnameP_run
theorem vg_ofD {e : Expr} {g : MG} (h : VG X e js g) : VGP X e js (mgOfD g) := h.imp fun _ _ _ _ => gOfD_run
/-! comprehensions -/
theorem lcPL_wiped {G : Gd} {vs : List Nat} : ∀ {ds : List PV} {e : Sl} {acc out : List PV} {env' : Sl}, lcPL G g t me vs ds (wipeS e vs) acc = some (out, env') → ∃ e', env' = wipeS e' vs
  | [], e, acc, out, env', h => by
    unfold lcPL at h
    split at h
    · cases h
      exact ⟨e, rfl⟩
    · cases h
  | d :: ds, e, acc, out, env', h => by
    unfold lcPL at h
    split at h
    · obtain ⟨e1, g1, h⟩ := Option.bind_eq_some_iff.mp h
      obtain ⟨⟨b, e2⟩, g2, h⟩ := Option.bind_eq_some_iff.mp h
      cases b with
      | false => exact lcPL_wiped (show lcPL G g t me vs ds (wipeS e2 vs) acc = _ from h)
      | true =>
        obtain ⟨⟨r, e3⟩, g3, h⟩ := Option.bind_eq_some_iff.mp (show ((mIn me e2).bind _) = _ from h)
        cases r with
        | pv x => exact lcPL_wiped (show lcPL G g t me vs ds (wipeS e3 vs) _ = _ from h)
        | _ => cases h
    · cases h
theorem lcEnd_ok (R : Rel K B env σ Hk H) {st : Bool} {p : Addr} {xs : List V} {acc : List PV} {r : Res} (h : lcEnd st acc env = some (r, env')) (hp : H p = some (.lst xs)) (ha : PvAll K Hk xs acc) (hk : Hk p = none) (h0 : B.H0 p = none) (hP : ∀ (n : Nat), Hk.P n ≠ some p) (hn : ∀ (j : Nat) s, env[j]? = some s → s.mut → σ[j]? ≠ some (some (V.ref p))) :
    ∃ Hk' : Kn, Rel K B env' σ Hk' H ∧ KSame Hk Hk' ∧ ResOk K B env' σ Hk' H r (.ref p) := by
  unfold lcEnd at h
  cases st with
  | true =>
    rw [if_pos rfl] at h
    split at h
    · rename_i M hS
      cases h
      obtain ⟨R1, s1, q1⟩ := R.stoTake (M := M) hS hk h0 hP hn (c := .lst acc) ⟨xs, hp, ha⟩ trivial
      exact ⟨_, R1, s1, q1⟩
    · cases h
  | false =>
    rw [if_neg (by simp)] at h
    obtain ⟨ds, h1, h2⟩ := Option.map_eq_some_iff.mp h
    cases h2
    exact ⟨Hk, R, .refl _, p, rfl, hk, h0, ⟨xs, hp, datsP_dv ha h1⟩, hP, hn⟩
theorem lcP_run {st : Bool} {vs : List Nat} (hj : ∀ j, j ∈ js → j ∈ vs) {Q : VK} (h : tE K (mLcP st mi g t me vs) σ H Q) : tLc (tIP K mi) (tGP K js g) (tT K t) (tE K (mIn me)) vs σ H Q := by
  obtain ⟨B, env, Hk, res, env', R, hm, k⟩ := h
  obtain ⟨⟨⟨ds, G⟩, e1⟩, h1, hm⟩ := Option.bind_eq_some_iff.mp hm
  by_cases hz : ds.length ≤ 100000
  · have hm : ((lcPL G g t me vs ds (wipeS e1 vs) []).bind fun q => lcEnd st q.1 q.2) = some (res, env') := by
      have hm : (if ds.length ≤ 100000 then _ else _) = _ := hm
      rw [if_pos hz] at hm
      exact hm
    obtain ⟨⟨out, e2⟩, h2, hm⟩ := Option.bind_eq_some_iff.mp hm
    refine ⟨B, env, Hk, (ds, G), e1, R, h1, fun J Hk1 H1 R1 s1 it p hp => ?_⟩
    obtain ⟨ew, rfl⟩ := lcPL_wiped h2
    let Inv := fun (i : Nat) (H : Hp) => ∃ e, ∃ Hk2 : Kn, ∃ xs acc, Rel K B (wipeS e vs) (wipe σ vs) Hk2 H ∧ KSame Hk1 Hk2 ∧ H p = some (.lst xs) ∧ Hk2 p = none ∧ (∀ (n : Nat), Hk2.P n ≠ some p) ∧ (∀ (j : Nat) s, (wipeS e vs)[j]? = some s → s.mut → (wipe σ vs)[j]? ≠ some (some (V.ref p))) ∧ PvAll K Hk2 xs acc ∧ acc.length ≤ i ∧ lcPL G g t me vs (ds.drop i) (wipeS e vs) acc = some (out, wipeS ew vs)
    refine ⟨fun i m H => m = ds.length - i ∧ Inv i H, ⟨ds.length, by simp, e1, Hk1, [], [], (R1.wiped vs).laid hp, .refl _, upd_same, R1.kfree hp, R1.pfree hp, fun j s a b => (R1.wiped vs).mutNe hp a b, .nil, Nat.zero_le _, h2⟩, ?_⟩
    have h0 : B.H0 p = none := R1.fresh0 hp
    rintro i m H2 ⟨rfl, e, Hk2, xs, acc, R2, s2, hpx, hkp, hPp, hnm, hda, hal, hf⟩
    cases hd : ds.drop i with
    | nil =>
      rw [hd] at hf
      unfold lcPL at hf
      split at hf
      · rename_i hG
        obtain ⟨rfl, he⟩ : acc = out ∧ wipeS e vs = wipeS ew vs := by
          have := Option.some.inj hf
          exact ⟨congrArg Prod.fst this, congrArg Prod.snd this⟩
        have hl : ds.length ≤ i := List.drop_eq_nil_iff.mp hd
        rw [← he] at hm
        obtain ⟨Hk3, R3, s3, o3⟩ := lcEnd_ok R2.unwiped hm hpx hda hkp h0 hPp (fun j s hjs hms z => by
          have nj : j ∉ vs := fun z => by
            rw [wipeS_no z hjs] at hms
            exact hms
          exact hnm j s hjs hms (by rw [wipe_out nj]; exact z))
        exact .inl ⟨(it R2 s2 hG i).2 hl, k _ Hk3 H2 R3 ((s1.trans s2).trans s3) o3⟩
      · cases hf
    | cons d r =>
      rw [hd] at hf
      unfold lcPL at hf
      split at hf
      · rename_i hG
        obtain ⟨hi, hr, hlt⟩ := drop_cons hd
        obtain ⟨e2, g1, hf⟩ := Option.bind_eq_some_iff.mp hf
        obtain ⟨⟨b, e3⟩, g2, hf⟩ := Option.bind_eq_some_iff.mp hf
        have G0 := R2.guard hpx hkp h0 hPp hnm
        obtain ⟨gi, yi⟩ := (it G0 s2 hG i).1 d hi
        refine .inr ⟨gi, Inv (i + 1), fun H' w => ⟨ds.length - (i + 1), by omega, rfl, w⟩, fun x H' y => ?_⟩
        obtain ⟨Hk3, G3, s3, o3⟩ := yi x H' y
        refine ⟨_, _, Hk3, d, e2, G3, o3, g1, fun σ4 Hk4 H4 G4 s4 d4 l4 => ⟨?_, ?_⟩⟩
        · rw [wipe_ext (σ := wipe σ vs) (fun i hi => d4 i fun z => hi (hj i z)) l4]
          exact wipe_ext (fun i hi => wipe_out hi) (wipe_length _ _)
        have wq : wipe σ4 vs = wipe σ vs := by
          rw [wipe_ext (σ := wipe σ vs) (fun i hi => d4 i fun z => hi (hj i z)) l4]
          exact wipe_ext (fun i hi => wipe_out hi) (wipe_length _ _)
        have s3 := s3.trans s4
        refine ⟨_, e2, Hk4, b, e3, G4, g2, fun Hk5 H5 G5 s5 => ?_⟩
        have fin : ∀ {e : Sl} {Hk6 : Kn} {H6 : Hp}, Rel K (B.guard p (.lst xs)) e σ4 Hk6 H6 → Rel K B (wipeS e vs) (wipe σ vs) Hk6 H6 ∧ H6 p = some (.lst xs) ∧ Hk6 p = none ∧ (∀ (n : Nat), Hk6.P n ≠ some p) ∧ ∀ (j : Nat) s, (wipeS e vs)[j]? = some s → s.mut → (wipe σ vs)[j]? ≠ some (some (V.ref p)) := fun {e Hk6 H6} G6 => by
          have Gw := G6.wiped vs
          rw [wq] at Gw
          exact Gw.unguard h0 (R1.kn.s.free (R1.kfree hp)) (R1.nO h0)
        cases b with
        | false =>
          have hf : lcPL G g t me vs r (wipeS e3 vs) acc = some (out, wipeS ew vs) := hf
          obtain ⟨F1, F2, F3, F5, F4⟩ := fin G5
          show Inv (i + 1) H5
          exact ⟨e3, Hk5, xs, acc, F1, (s2.trans s3).trans s5, F2, F3, F5, F4, hda.mono (s3.trans s5), by omega, by rw [hr]; exact hf⟩
        | true =>
          have hf : ((mIn me e3).bind _) = some (out, wipeS ew vs) := hf
          obtain ⟨⟨rx, e4⟩, g3, hf⟩ := Option.bind_eq_some_iff.mp hf
          show tE K (mIn me) σ4 H5 _
          refine ⟨_, e3, Hk5, rx, e4, G5, g3, fun y6 Hk6 H6 G6 s6 o6 => ?_⟩
          obtain ⟨F1, F2, F3, F5, F4⟩ := fin G6
          cases rx with
          | pv dx =>
            have hf : lcPL G g t me vs r (wipeS e4 vs) (acc ++ [dx]) = some (out, wipeS ew vs) := hf
            have sm := (s3.trans s5).trans s6
            refine ⟨xs, F2, ?_, e4, Hk6, xs ++ [y6], acc ++ [dx], F1.other F3 h0 F5 (fun x z => by rw [F2] at z; cases z) F4, s2.trans sm, upd_same, F3, F5, F4, PvAll.append (hda.mono sm) (.cons o6 .nil), ?_, ?_⟩
            · rw [hda.len]
              exact Nat.lt_of_lt_of_le (show acc.length < 200000 by omega) (by decide)
            · rw [List.length_append]
              show acc.length + 1 ≤ i + 1
              omega
            · rw [hr]
              exact hf
          | _ => cases hf
      · cases hf
  · have hm : (if ds.length ≤ 100000 then _ else _) = _ := hm
    rw [if_neg hz] at hm
    cases hm
theorem ve_lcP (st : Bool) {elt tg iter : Expr} {ifs : List Expr} {scope : Scope} {own : List (Str × Nat)} (hN : X.N.Nodup) (hi : VIP X tg iter mi) (ok : BlkOk X.N X.env.scope scope own)
    (hg : ∀ (s : Shared) (H : Hp) (C : Addr) (cl : List (Str × Addr)) (fp : List Addr), VGP (X.blk s H scope (compEnvC scope cl C X.env) fp) tg js g) (ht : ∀ (s : Shared) (H : Hp) (C : Addr) (cl : List (Str × Addr)) (fp : List Addr), VTs (X.blk s H scope (compEnvC scope cl C X.env) fp) ifs t)
    (he : ∀ (s : Shared) (H : Hp) (C : Addr) (cl : List (Str × Addr)) (fp : List Addr), VE (X.blk s H scope (compEnvC scope cl C X.env) fp) elt me) (hj : ∀ j, j ∈ js → j ∈ own.map (·.2)) (hc : X.calm = true := by rfl) (hs : ∀ x, foldedSetIterable iter X.env x = pure x := by intro _; rfl) :
    VE X (.ListComp elt [⟨tg, iter, ifs, 0⟩] scope pos) (mLcP st mi g t me (own.map (·.2))) :=
  (pe_lc hc hN hi ok hg ht (fun s H C cl fp => ve_in (he s H C cl fp)) hs).imp fun _ _ _ => lcP_run hj
theorem vs_setLcP (st : Bool) {i : Nat} {y : Str} {py spos : Pos} {elt tg iter : Expr} {ifs : List Expr} {scope : Scope} {own : List (Str × Nat)} (hN : X.N.Nodup) (hi : VIP X tg iter mi) (ok : BlkOk X.N X.env.scope scope own)
    (hg : ∀ (s : Shared) (H : Hp) (C : Addr) (cl : List (Str × Addr)) (fp : List Addr), VGP (X.blk s H scope (compEnvC scope cl C X.env) fp) tg js g) (ht : ∀ (s : Shared) (H : Hp) (C : Addr) (cl : List (Str × Addr)) (fp : List Addr), VTs (X.blk s H scope (compEnvC scope cl C X.env) fp) ifs t)
    (he : ∀ (s : Shared) (H : Hp) (C : Addr) (cl : List (Str × Addr)) (fp : List Addr), VE (X.blk s H scope (compEnvC scope cl C X.env) fp) elt me) (hj : ∀ j, j ∈ js → j ∈ own.map (·.2))
    (hsw : swapsWith (.ListComp elt [⟨tg, iter, ifs, 0⟩] scope pos) (some (.Name y py)) spos.line X.env = pure true) (hy : X.N[i]? = some y := by rfl) (hyl : X.env.scope.names.lookup y = some .local := by rfl) (hc : X.calm = true := by rfl) (hs : ∀ x, foldedSetIterable iter X.env x = pure x := by intro _; rfl) :
    VS X (.Assign [.Name y py] (.ListComp elt [⟨tg, iter, ifs, 0⟩] scope pos) spos) (mSet i (mLcP st mi g t me (own.map (·.2)))) :=
  fun W _ => (ps_setLc hc hN hy hyl hsw hi ok hg ht (fun s H C cl fp => ve_in (he s H C cl fp)) hs).imp fun D σ H h => lcP_run hj (set_run h)
end
end Cm
namespace Cm
open PySem PySem.Spec PyProof.Rows L2
/-! ### defs that change the store -/
abbrev FMM := List MC → Sl → Option (Res × Sl × List MC)
structure StoIn (K : PySem.W.Frag) (Hk : Kn) (H : Hp) (M : List MC) : Prop where
  cel : ∀ (n : Nat) c, M[n]? = some c → ∃ a, Hk.P n = some a ∧ CellM K Hk H a c ∧ (c.live → Hk a = none)
  inj : ∀ (n m : Nat) a, Hk.P n = some a → Hk.P m = some a → n = m
  top : ∀ (n : Nat), M.length ≤ n → Hk.P n = none
  pin : ∀ (n : Nat) a, Hk.P n = some a → H a ≠ none
def ArgM (K : PySem.W.Frag) (Hk : Kn) (H : Hp) (s : Slot) (v : V) : Prop := match s with
  | .val d => Dv K Hk v d
  | .pv p => PvOk K Hk v p
  | .io _ c => ∃ a, v = .ref a ∧ Hk a = none ∧ CellAt K Hk H a c ∧ ∀ (n : Nat), Hk.P n ≠ some a
  | .scr ns => ∃ a, v = .ref a ∧ SqL K Hk a (ns.map V.int)
  | _ => False
structure ArgsM (K : PySem.W.Frag) (Hk : Kn) (H : Hp) (ins : Sl) (vs : List V) : Prop where
  len : ins.length = vs.length
  arg : ∀ (i : Nat) s v, ins[i]? = some s → vs[i]? = some v → ArgM K Hk H s v
  ix : ∀ (i k : Nat) c, ins[i]? = some (.io k c) → k = i
  sep : ∀ (i j k l : Nat) c c' a, ins[i]? = some (.io k c) → ins[j]? = some (.io l c') → vs[i]? = some (V.ref a) → vs[j]? = some (V.ref a) → i = j
def FResM (K : PySem.W.Frag) (H : Hp) (Hk' : Kn) (H' : Hp) (r : Res) (v : V) : Prop := match r with
  | .dat d => Dv K Hk' v d
  | .new c => ∃ a, v = .ref a ∧ Hk' a = none ∧ H a = none ∧ CellAt K Hk' H' a c ∧ ∀ (n : Nat), Hk'.P n ≠ some a
  | .pv p => PvOk K Hk' v p
  | .slt _ => False
structure PostM (K : PySem.W.Frag) (Hk : Kn) (H : Hp) (ins : Sl) (vs : List V) (outs : Sl) (M' : List MC) (Hk' : Kn) (H' : Hp) : Prop where
  kn : KSame Hk Hk'
  ex : Same Hk' H'
  fr : ∀ a, Hk' a ≠ none → Hk a = none → H a = none
  kp : ∀ a o, H a = some o → (∀ k, ioA ins vs k ≠ some a) → (∀ n, Hk.P n = some a → Hk a ≠ none) → H' a = some o
  io : ∀ k a, ioA ins vs k = some a → ∃ c', outs[k]? = some (.io k c') ∧ Hk' a = none ∧ CellAt K Hk' H' a c' ∧ ∀ (n : Nat), Hk'.P n ≠ some a
  sto : StoIn K Hk' H' M'
  new : ∀ n a, Hk'.P n = some a → Hk.P n = none → Hk' a = none → H a = none
  old : ∀ n a, Hk.P n = some a → Hk a = none → Hk' a = none
def spM (K : PySem.W.Frag) (fm : FMM) : Sp := fun vs H Q _ => ∃ (Hk : Kn) (ins : Sl) (M : List MC) (r : Res) (outs : Sl) (M' : List MC), Same Hk H ∧ StoIn K Hk H M ∧ ArgsM K Hk H ins vs ∧ fm M ins = some (r, outs, M') ∧
  ∀ v (Hk' : Kn) H', PostM K Hk H ins vs outs M' Hk' H' → FResM K H Hk' H' r v → Q v H'
def finM : Fl × Sl → Option Res
  | (.nx, _) => some (.dat .none)
  | (.rt (.dat d), _) => some (.dat d)
  | (.rt (.new c), _) => some (.new c)
  | (.rt (.pv p), _) => some (.pv p)
  | (.rt (.slt i), e) => match e[i]? with
    | some (.val d) => some (.dat d)
    | some (.own c) => some (.new c)
    | _ => none
  | _ => none
def fmM (np n : Nat) (mb : MS) : FMM := fun M ins => if ins.length = np then (mb ((ins ++ List.replicate (n - np) Slot.no).set (n - 1) (.sto M))).bind fun p => (finM p).bind fun r => if ioKept ins p.2 = true then (match p.2[p.2.length - 1]? with
    | some (.sto M') => some (r, p.2.take np, M')
    | _ => none) else none else none
section
variable {P : Program} {w : World} {K : PySem.W.Frag} {mg : Str → Option Value} {base : Heap}
theorem fmM_len {np n : Nat} {mb : MS} {M : List MC} {ins : Sl} {r : Res × Sl × List MC} (h : fmM np n mb M ins = some r) : ins.length = np := by
  unfold fmM at h
  by_cases hl : ins.length = np
  · exact hl
  · rw [if_neg hl] at h
    cases h
theorem spM_len {N ps : List Str} {mb : MS} (vs : List V) (H : Hp) (Q : VK) (E : XK) (h : spM K (fmM ps.length N.length mb) vs H Q E) : vs.length = ps.length := by
  obtain ⟨Hk, ins, M, r, outs, M', _, _, hA, hf, _⟩ := h
  rw [← hA.len, fmM_len hf]
theorem ArgsM.rel {Hk : Kn} {H : Hp} {ins : Sl} {vs : List V} {N : List Str} {M : List MC} (A : ArgsM K Hk H ins vs) (S : StoIn K Hk H M) (s : Same Hk H) (hl : vs.length < N.length) :
    Cm.Rel K ⟨Hk, H, ioA ins vs, fun _ => none, fun a => ∃ n, Hk.P n = some a ∧ Hk a = none⟩ ((ins ++ List.replicate (N.length - ins.length) Slot.no).set (N.length - 1) (.sto M)) (L2.start N vs) Hk H := by
  have hA : ∀ a, (∃ k, ioA ins vs k = some a) → H a ≠ none ∧ Hk a = none ∧ ∀ (n : Nat), Hk.P n ≠ some a := fun a h => by
    obtain ⟨k, h⟩ := h
    obtain ⟨l, c, e1, e2⟩ := ioA_of h
    obtain ⟨b, e3, q1, q2, q3⟩ := A.arg k _ _ e1 e2
    cases e3
    obtain ⟨o, ho⟩ := q2.there
    exact ⟨ne_none ho, q1, q3⟩
  have io : ∀ a, (⟨Hk, H, ioA ins vs, fun _ => none, fun a => ∃ n, Hk.P n = some a ∧ Hk a = none⟩ : Fb).io a → H a ≠ none ∧ Hk a = none := fun a h => by
    rcases h with h | ⟨n, h1, h2⟩
    · exact ⟨(hA a h).1, (hA a h).2.1⟩
    · exact ⟨S.pin n a h1, h2⟩
  have hlen : (ins ++ List.replicate (N.length - ins.length) Slot.no).length = N.length := by
    rw [List.length_append, List.length_replicate]
    have := A.len
    omega
  have cut : ∀ (i : Nat) s, ((ins ++ List.replicate (N.length - ins.length) Slot.no).set (N.length - 1) (.sto M))[i]? = some s → (ins[i]? = some s ∧ i < vs.length) ∨ s = .no ∨ (s = .sto M ∧ i = N.length - 1) := fun i s h => by
    rcases set_get h with ⟨h1, h2⟩ | ⟨_, h⟩
    · exact .inr (.inr ⟨h2, h1⟩)
    · by_cases hi : i < ins.length
      · rw [List.getElem?_append_left hi] at h
        exact .inl ⟨h, by rw [← A.len]; exact hi⟩
      · rw [List.getElem?_append_right (by omega), List.getElem?_replicate] at h
        split at h
        · cases h
          exact .inr (.inl rfl)
        · cases h
  have nsto : ∀ (i : Nat) M1, ins[i]? = some (.sto M1) → i < vs.length → False := fun i M1 h hi => by
    have := A.arg i _ _ h (List.getElem?_eq_getElem hi)
    exact this
  refine ⟨s, .refl _, fun a h1 h2 => absurd h2 h1, fun a o h _ => h, io, fun a h => (io a h).1, ?_, fun i s h => ?_, fun i j s t a h1 h2 m1 m2 e1 e2 => ?_, fun M1 h => ?_, fun n a h => ⟨S.pin n a h, fun z => .inr (.inr ⟨n, h, z⟩)⟩, fun i s a n hi ms e1 => ?_⟩
  · rw [List.length_set, hlen, start_len (by omega)]
  · have hlt : i < (L2.start N vs).length := by
      have := (List.getElem?_eq_some_iff.mp h).1
      rw [List.length_set, hlen] at this
      rw [start_len (by omega)]
      exact this
    rcases cut i s h with ⟨q, hi⟩ | rfl | ⟨rfl, _⟩
    · have hv : vs[i]? = some vs[i] := List.getElem?_eq_getElem hi
      refine ⟨some vs[i], start_get hv, ?_⟩
      have z := A.arg i s _ q hv
      cases s with
      | no => trivial
      | val d => exact ⟨_, rfl, z⟩
      | pv p => exact ⟨_, rfl, z⟩
      | own c => cases z
      | scr ns =>
        obtain ⟨a, e1, q1⟩ := z
        exact ⟨a, by rw [e1], q1⟩
      | pin a => cases z
      | sto M => cases z
      | io k c =>
        obtain ⟨a, e1, q1, q2, q3⟩ := z
        refine ⟨a, by rw [e1], q1, ?_, q2⟩
        have := A.ix i k c q
        subst this
        exact ioA_is q (by rw [hv, e1])
    · exact ⟨_, List.getElem?_eq_getElem hlt, trivial⟩
    · exact ⟨_, List.getElem?_eq_getElem hlt, trivial⟩
  · rcases cut i s h1 with ⟨q1, hi⟩ | rfl | ⟨rfl, _⟩
    · rcases cut j t h2 with ⟨q2, hj⟩ | rfl | ⟨rfl, _⟩
      · have v1 : vs[i]? = some vs[i] := List.getElem?_eq_getElem hi
        have v2 : vs[j]? = some vs[j] := List.getElem?_eq_getElem hj
        have g1 := start_get (N := N) v1
        have g2 := start_get (N := N) v2
        rw [e1] at g1
        rw [e2] at g2
        have w1 : vs[i]? = some (.ref a) := by rw [v1]; exact congrArg some (Option.some.inj (Option.some.inj g1)).symm
        have w2 : vs[j]? = some (.ref a) := by rw [v2]; exact congrArg some (Option.some.inj (Option.some.inj g2)).symm
        cases s with
        | own c => exact False.elim (A.arg i _ _ q1 w1)
        | io k c =>
          cases t with
          | own c => exact False.elim (A.arg j _ _ q2 w2)
          | io l c' => exact A.sep i j k l c c' a q1 q2 w1 w2
          | _ => cases m2
        | _ => cases m1
      · cases m2
      · cases m2
    · cases m1
    · cases m1
  · unfold HasSto at h
    rw [List.length_set, hlen, List.getElem?_set_self (by rw [hlen]; omega)] at h
    cases h
    exact ⟨S.cel, S.inj, S.top⟩
  · rcases cut i s hi with ⟨q1, hi⟩ | rfl | ⟨rfl, _⟩
    · have v1 : vs[i]? = some vs[i] := List.getElem?_eq_getElem hi
      have g1 := start_get (N := N) v1
      rw [e1] at g1
      have w1 : vs[i]? = some (.ref a) := by rw [v1]; exact congrArg some (Option.some.inj (Option.some.inj g1)).symm
      cases s with
      | own c => exact False.elim (A.arg i _ _ q1 w1)
      | io k c =>
        obtain ⟨b, e, _, _, q3⟩ := A.arg i _ _ q1 w1
        cases e
        exact q3 n
      | _ => cases ms
    · cases ms
    · cases ms
theorem fnM_body {qual : Str} {st : Stmt} {f : Addr} {N ps : List Str} {mb : MS} (S : FnScope N ps (defScope st)) (hN : ps.length < N.length) {cdv : Value} {A : Around} {outer : List Env} {s : Shared} {H : Hp} {E : XK} {vs : List V} {Q : VK}
    (hb : VSs ((cxOf CX0 P w K mg base N qual (defScope st) f cdv A outer s H E).nox) (defBody st) mb) (h : spM K (fmM ps.length N.length mb) vs H Q E) :
    ∃ t, PSs (cxOf CX0 P w K mg base N qual (defScope st) f cdv A outer s H E) (defBody st) t ∧ t { nx := fun _ H' => Q .non H', rt := Q } (L2.start N vs) H := by
  obtain ⟨Hk, ins, M, r, outs, M', sm, hS, hA, hf, q⟩ := h
  have hl := fmM_len hf
  unfold fmM at hf
  rw [if_pos hl] at hf
  obtain ⟨⟨fl, env'⟩, h1, hf⟩ := Option.bind_eq_some_iff.mp hf
  obtain ⟨r', h2, hf⟩ := Option.bind_eq_some_iff.mp hf
  by_cases hk : ioKept ins env' = true
  · have hf : (if ioKept ins env' = true then _ else _) = some (r, outs, M') := hf
    rw [if_pos hk] at hf
    dsimp only at hf
    split at hf
    · rename_i M2 hM
      cases hf
      refine ⟨tS K (fun _ _ _ _ => False) mb, PSs.nox (hb _ fun u s' h => by obtain ⟨_, _, _, _, _, _, _, _, _, _, _, _, _, _, _, _, w⟩ := h; exact w.elim), ?_⟩
      have R := hA.rel (N := N) hS sm (by rw [← hA.len, hl]; exact hN)
      rw [hl] at R
      refine ⟨_, _, _, fl, env', R, h1, fun σ' Hk' H' R' s' => ?_⟩
      have hsto : HasSto env' M' := hM
      have hio : ∀ (n : Nat) k a, Hk'.P n = some a → ioA ins vs k ≠ some a := fun n k a h1 h2 => by
        obtain ⟨l, c, e1, e2⟩ := ioA_of h2
        have := hA.ix k l c e1
        subst this
        obtain ⟨c', g1⟩ := ioKept_get hk e1
        obtain ⟨o, z0, b, rfl, _, z1, z2⟩ := R'.slot l _ g1
        have z1 : ioA ins vs l = some b := z1
        rw [h2] at z1
        cases z1
        exact R'.psep l _ a n g1 trivial z0 h1
      have post : PostM K Hk H ins vs (env'.take ps.length) M' Hk' H' := by
        have SO := R'.sok M' hsto
        refine ⟨s', R'.ex, R'.fr, fun a o h1 h2 h3 => R'.kp a o h1 (fun z => z.elim (fun ⟨k, z⟩ => h2 k z) fun ⟨n, z1, z2⟩ => h3 n z1 z2), fun k a h => ?_, ⟨SO.cel, SO.inj, SO.top, fun n a h => (R'.pin n a h).1⟩, fun n a h1 h2 h3 => ?_, fun n a h1 h2 => (R'.oin a (.inr ⟨n, h1, h2⟩)).2⟩
        · obtain ⟨l, c, e1, e2⟩ := ioA_of h
          have := hA.ix k l c e1
          subst this
          obtain ⟨c', g1⟩ := ioKept_get hk e1
          have hlt : l < ps.length := by rw [← hl]; exact (List.getElem?_eq_some_iff.mp e1).1
          refine ⟨c', by rw [List.getElem?_take_of_lt hlt]; exact g1, (R'.oin a (.inl ⟨l, h⟩)).2, ?_, fun n z => hio n l a z h⟩
          obtain ⟨o, _, b, _, _, z1, z2⟩ := R'.slot l _ g1
          have z1 : ioA ins vs l = some b := z1
          rw [h] at z1
          cases z1
          exact z2
        · rcases (R'.pin n a h1).2 h3 with z | z
          · exact z
          · rcases z with ⟨k, z⟩ | ⟨m, z1, z2⟩
            · exact absurd z (hio n k a h1)
            · have := SO.inj n m a h1 (s'.p _ _ z1)
              subst this
              rw [h2] at z1
              cases z1
      have fin : ∀ v, FResM K H Hk' H' r v → Q v H' := fun v hv => q v Hk' H' post hv
      cases fl with
      | nx =>
        cases h2
        exact fin .non .non
      | bk => cases h2
      | ct => cases h2
      | ex C fs => cases h2
      | rt r0 =>
        intro v hv
        cases r0 with
        | dat d =>
          cases h2
          exact fin v hv
        | pv p =>
          cases h2
          exact fin v hv
        | new c =>
          cases h2
          obtain ⟨a, rfl, q1, q2, q3, q5, _⟩ := hv
          exact fin _ ⟨a, rfl, q1, q2, q3, q5⟩
        | slt i =>
          have hv : σ'[i]? = some (some v) := hv
          cases e : env'[i]? with
          | none =>
            simp only [finM, e] at h2
            cases h2
          | some s =>
            obtain ⟨o, g1, g2⟩ := R'.slot i s e
            rw [hv] at g1
            cases g1
            simp only [finM, e] at h2
            cases s with
            | val d =>
              cases h2
              obtain ⟨v', e1, z⟩ := g2
              cases e1
              exact fin _ z
            | own c =>
              cases h2
              obtain ⟨a, e1, z1, z2, z3⟩ := g2
              cases e1
              exact fin _ ⟨a, rfl, z1, z2, z3, fun n => R'.psep i _ a n e trivial hv⟩
            | _ => cases h2
    · cases hf
  · have hf : (if ioKept ins env' = true then _ else _) = some (r, outs, M') := hf
    rw [if_neg hk] at hf
    cases hf
theorem fnM_ok {x qual : Str} {st : Stmt} {f : Addr} {fd : FuncData} {N ps : List Str} {k : Nat} {mb : MS} (F : FunD K x qual (defArgs st) (defBody st) (defScope st) [] [] f fd) (S : FnScope N ps (defScope st)) (hN : ps.length < N.length)
    (hb : ∀ (cdv : Value) (A : Around) (outer : List Env) (s : Shared) (H : Hp) (E : XK), Room k (A.deeper (envOfC qual (defScope st) s.heap.objs.size f cdv)) → VSs ((cxOf CX0 P w K mg base N qual (defScope st) f cdv A outer s H E).nox) (defBody st) mb) :
    FnOk P w K mg base CX0 (k + 1) f fd ps (spM K (fmM ps.length N.length mb)) :=
  F.ok (CX := CX0) S spM_len fun cdv A outer s H vs Q E hr h => fnM_body S hN (hb cdv A outer s H E hr) h
end
/-! ### such a def called -/
def argM (io : Option Nat) (env : Sl) (k : Nat) (r : Res) : Option Slot := if io = some k then (match r with
    | .slt i => match env[i]? with
      | some (.own c) => some (.io k c)
      | some (.io _ c) => some (.io k c)
      | _ => none
    | _ => none) else match r with
    | .dat d => some (.val d)
    | .pv p => some (.pv p)
    | .slt i => match env[i]? with
      | some (.val d) => some (.val d)
      | some (.scr ns) => some (.scr ns)
      | _ => none
    | _ => none
def argsM (io : Option Nat) (env : Sl) : Nat → List Res → Option Sl
  | _, [] => some []
  | k, r :: rs => (argM io env k r).bind fun s => (argsM io env (k + 1) rs).map (s :: ·)
def callM (fm : FMM) (io : Option Nat) (rs : List Res) (e : Sl) : Option (Res × Sl) := match e[e.length - 1]? with
  | some (.sto M) => (argsM io e 0 rs).bind fun ins => (fm M ins).bind fun q => (backV io e rs q.2.1).map fun e2 => (q.1, stoPut e2 q.2.2)
  | _ => none
section
variable {X : Cx} {K : PySem.W.Frag} {B : Fb} {env e2 : Sl} {σ : L2.St} {Hk : Kn} {H : Hp}
theorem argsM_get {io : Option Nat} : ∀ {rs : List Res} {k : Nat} {ins : Sl}, argsM io env k rs = some ins → ins.length = rs.length ∧ ∀ (i : Nat) r, rs[i]? = some r → ∃ s, ins[i]? = some s ∧ argM io env (k + i) r = some s
  | [], k, ins, h => by
    cases h
    exact ⟨rfl, fun i r e => by simp at e⟩
  | r :: rs, k, ins, h => by
    obtain ⟨s, h1, h⟩ := Option.bind_eq_some_iff.mp h
    obtain ⟨ss, h2, h3⟩ := Option.map_eq_some_iff.mp h
    subst h3
    obtain ⟨l, g⟩ := argsM_get h2
    refine ⟨by simp [l], fun i r' e => ?_⟩
    cases i with
    | zero =>
      simp at e
      subst e
      exact ⟨s, rfl, h1⟩
    | succ i =>
      obtain ⟨s', q1, q2⟩ := g i r' (by simpa using e)
      refine ⟨s', by simpa using q1, ?_⟩
      rw [show k + (i + 1) = k + 1 + i by omega]
      exact q2
theorem argM_io {io : Option Nat} {i : Nat} {r : Res} {s : Slot} (h : argM io env i r = some s) {k : Nat} {c : Cell} (e : s = .io k c) : k = i ∧ io = some i ∧ ∃ j t, r = .slt j ∧ env[j]? = some t ∧ t.mut ∧ (t = .own c ∨ ∃ l, t = .io l c) := by
  subst e
  unfold argM at h
  by_cases hio : io = some i
  · rw [if_pos hio] at h
    cases r with
    | slt j =>
      cases ej : env[j]? with
      | none => simp only [ej] at h; cases h
      | some t =>
        simp only [ej] at h
        cases t with
        | own c2 =>
          cases h
          exact ⟨rfl, hio, j, _, rfl, ej, trivial, .inl rfl⟩
        | io l c2 =>
          cases h
          exact ⟨rfl, hio, j, _, rfl, ej, trivial, .inr ⟨l, rfl⟩⟩
        | _ => cases h
    | _ => cases h
  · rw [if_neg hio] at h
    cases r with
    | slt j =>
      cases ej : env[j]? with
      | none => simp only [ej] at h; cases h
      | some t =>
        simp only [ej] at h
        cases t <;> cases h
    | dat d => cases h
    | pv p => cases h
    | new c => cases h
/-- what a call leaves behind -/
theorem callM_ok (R : Cm.Rel K B env σ Hk H) {fm : FMM} {io : Option Nat} {rs : List Res} {vs : List V} {r : Res} (h : callM fm io rs env = some (r, e2)) (hr : RsAll K σ Hk rs vs) {Q : VK}
    (k : ∀ v (Hk' : Kn) H', Cm.Rel K B e2 σ Hk' H' → KSame Hk Hk' → ResOk K B e2 σ Hk' H' r v → Q v H') : spM K fm vs H Q E0 := by
  unfold callM at h
  split at h
  · rename_i M hS
    obtain ⟨ins, h1, h⟩ := Option.bind_eq_some_iff.mp h
    obtain ⟨⟨r', outs, M'⟩, h2, h⟩ := Option.bind_eq_some_iff.mp h
    obtain ⟨e1, h3, h⟩ := Option.map_eq_some_iff.mp h
    cases h
    have hS : HasSto env M := hS
    have SO := R.sok M hS
    obtain ⟨la, ga⟩ := argsM_get h1
    have hl : ins.length = vs.length := by rw [la, hr.len]
    have at_ : ∀ (i : Nat) s, ins[i]? = some s → ∃ r, rs[i]? = some r ∧ argM io env i r = some s := fun i s hs => by
      have hi : i < rs.length := by rw [← la]; exact (List.getElem?_eq_some_iff.mp hs).1
      obtain ⟨s', q1, q2⟩ := ga i _ (List.getElem?_eq_getElem hi)
      rw [hs] at q1
      cases q1
      rw [Nat.zero_add] at q2
      exact ⟨_, List.getElem?_eq_getElem hi, q2⟩
    have A : ArgsM K Hk H ins vs := by
      refine ⟨hl, fun i s v e1 e2 => ?_, fun i k c e => ?_, fun i j k l c c' a e1 e2 _ _ => ?_⟩
      · obtain ⟨r, q1, q2⟩ := at_ i s e1
        obtain ⟨r2, q3, q4⟩ := hr.get i v e2
        rw [q1] at q3
        cases q3
        unfold argM at q2
        by_cases hio : io = some i
        · rw [if_pos hio] at q2
          cases r with
          | slt j =>
            have q4 : σ[j]? = some (some v) := q4
            cases ej : env[j]? with
            | none => simp only [ej] at q2; cases q2
            | some t =>
              simp only [ej] at q2
              obtain ⟨o, w1, w2⟩ := R.slot j _ ej
              rw [q4] at w1
              cases w1
              cases t with
              | own c =>
                cases q2
                obtain ⟨a, e, z1, z2, z3⟩ := w2
                cases e
                exact ⟨a, rfl, z1, z3, fun n => R.psep j _ a n ej trivial q4⟩
              | io l c =>
                cases q2
                obtain ⟨a, e, z1, z2, z3⟩ := w2
                cases e
                exact ⟨a, rfl, z1, z3, fun n => R.psep j _ a n ej trivial q4⟩
              | _ => cases q2
          | _ => cases q2
        · rw [if_neg hio] at q2
          cases r with
          | dat d => cases q2; exact q4
          | pv p => cases q2; exact q4
          | new c => cases q2
          | slt j =>
            have q4 : σ[j]? = some (some v) := q4
            cases ej : env[j]? with
            | none => simp only [ej] at q2; cases q2
            | some t =>
              simp only [ej] at q2
              obtain ⟨o, w1, w2⟩ := R.slot j _ ej
              rw [q4] at w1
              cases w1
              cases t with
              | val d =>
                cases q2
                obtain ⟨v', e, z⟩ := w2
                cases e
                exact z
              | scr ns =>
                cases q2
                obtain ⟨a, e, z⟩ := w2
                cases e
                exact ⟨a, rfl, z⟩
              | _ => cases q2
      · obtain ⟨r, q1, q2⟩ := at_ i _ e
        exact (argM_io q2 rfl).1
      · obtain ⟨r, q1, q2⟩ := at_ i _ e1
        obtain ⟨r2, q3, q4⟩ := at_ j _ e2
        have z1 := (argM_io q2 rfl).2.1
        have z2 := (argM_io q4 rfl).2.1
        rw [z1] at z2
        exact Option.some.inj z2
    -- the argument that is changed
    have ioAt : ∀ k a, ioA ins vs k = some a → io = some k ∧ ∃ j t, rs[k]? = some (.slt j) ∧ env[j]? = some t ∧ t.mut ∧ σ[j]? = some (some (V.ref a)) := fun k a e => by
      obtain ⟨l, c, e1, e2⟩ := ioA_of e
      obtain ⟨r, q1, q2⟩ := at_ k _ e1
      obtain ⟨rfl, z2, j, t, rfl, z4, z5, _⟩ := argM_io q2 rfl
      obtain ⟨r2, q3, q4⟩ := hr.get l _ e2
      rw [q1] at q3
      cases q3
      exact ⟨z2, j, t, q1, z4, z5, q4⟩
    refine ⟨Hk, ins, M, r', outs, M', R.ex, ⟨SO.cel, SO.inj, SO.top, fun n a h => (R.pin n a h).1⟩, A, h2, fun v Hk' H' p hres => ?_⟩
    have fresh : ∀ a, H a ≠ none → Hk a = none → Hk' a = none := fun a h1 h2 => by
      cases q : Hk' a with
      | none => rfl
      | some u => exact absurd (p.fr a (ne_none q) h2) h1
    have he1 : e1.length = env.length ∧ e1[env.length - 1]? = some (.sto M) ∧ ∀ (j : Nat) s, e1[j]? = some s → (env[j]? = some s ∧ ∀ k a, ioA ins vs k = some a → s.mut → σ[j]? ≠ some (some (V.ref a))) ∨ ∃ k a c t, ioA ins vs k = some a ∧ outs[k]? = some (.io k c) ∧ env[j]? = some t ∧ t.mut ∧ s = t.put c ∧ σ[j]? = some (some (V.ref a)) := by
      rcases back_is h3 with ⟨hio, rfl⟩ | ⟨q, i, k', c, s', hq, g1, g2, g3, rfl⟩
      · refine ⟨rfl, hS, fun j s hj => .inl ⟨hj, fun k a e => ?_⟩⟩
        rw [hio] at *
        cases (ioAt k a e).1
      · have hql : q < vs.length := by
          rw [← hr.len]
          exact (List.getElem?_eq_some_iff.mp g1).1
        obtain ⟨r2, z1, z2⟩ := hr.get q _ (List.getElem?_eq_getElem hql)
        rw [g1] at z1
        cases z1
        have z2 : σ[i]? = some (some vs[q]) := z2
        have hqi : q < ins.length := by rw [hl]; exact hql
        obtain ⟨r3, y1, y2⟩ := at_ q _ (List.getElem?_eq_getElem hqi)
        rw [g1] at y1
        cases y1
        have hm : s'.mut ∧ ∃ c0, ins[q] = .io q c0 := by
          unfold argM at y2
          rw [if_pos hq] at y2
          simp only [g3] at y2
          cases s' with
          | own c0 => exact ⟨trivial, c0, (Option.some.inj y2).symm⟩
          | io l c0 => exact ⟨trivial, c0, (Option.some.inj y2).symm⟩
          | _ => cases y2
        obtain ⟨hm, c0, hc0⟩ := hm
        obtain ⟨a, w1, w2, w3, _⟩ := R.mutAt g3 hm
        have hv : vs[q]? = some (.ref a) := by
          rw [List.getElem?_eq_getElem hql]
          rw [w1] at z2
          exact congrArg some (Option.some.inj (Option.some.inj z2)).symm
        have hA : ioA ins vs q = some a := ioA_is (by rw [List.getElem?_eq_getElem hqi, hc0]) hv
        have hkq : k' = q := by
          obtain ⟨c', y3, _⟩ := p.io q a hA
          rw [g2] at y3
          cases y3
          rfl
        subst hkq
        have ni : i ≠ env.length - 1 := hS.ne g3 fun M z => by cases s' with
          | own c => cases z
          | io k c => cases z
          | _ => cases hm
        refine ⟨List.length_set, by rw [List.getElem?_set_ne ni]; exact hS, fun j s hj => ?_⟩
        rcases set_get hj with ⟨rfl, rfl⟩ | ⟨hne, hj⟩
        · exact .inr ⟨k', a, c, s', hA, g2, g3, hm, rfl, w1⟩
        · refine .inl ⟨hj, fun k b e ms e2 => ?_⟩
          obtain ⟨x1, j2, t2, x2, x3, x4, x5⟩ := ioAt k b e
          rw [hq] at x1
          cases x1
          rw [hA] at e
          cases e
          exact hne (R.sep j i s s' a hj g3 ms hm e2 w1)
    obtain ⟨L1, L2, L3⟩ := he1
    have R2 : Cm.Rel K B (stoPut e1 M') σ Hk' H' := by
      have back : ∀ (j : Nat) s, (stoPut e1 M')[j]? = some s → (s = .sto M' ∧ j = env.length - 1) ∨ e1[j]? = some s := fun j s hj => by
        rcases set_get hj with ⟨z1, z2⟩ | ⟨_, hj⟩
        · exact .inl ⟨z2, by rw [z1, L1]⟩
        · exact .inr hj
      refine ⟨p.ex, R.kn.trans p.kn, fun a g1 g2 => ?_, fun a o g1 g2 => ?_, fun a g => ?_, R.o0, ?_, fun j s hj => ?_, fun i j s t a hi hj ms mt g1 g2 => ?_, fun M1 hM1 => ?_, fun n a g => ?_, fun j s a n hj ms g e => ?_⟩
      · by_cases z : Hk a = none
        · exact R.fresh0 (p.fr a g1 z)
        · exact R.fr a z g2
      · refine p.kp a o (R.kp a o g1 g2) (fun k e => ?_) fun n z hk => ?_
        · obtain ⟨_, j, t, _, x3, x4, x5⟩ := ioAt k a e
          obtain ⟨b, w1, _, _, w4⟩ := R.mutAt x3 x4
          rw [x5] at w1
          cases w1
          rcases w4 with w | w
          · rw [g1] at w; cases w
          · exact g2 w
        · rcases (R.pin n a z).2 hk with w | w
          · rw [g1] at w; cases w
          · exact g2 w
      · obtain ⟨w1, w2⟩ := R.oin a g
        refine ⟨?_, fresh a w1 w2⟩
        by_cases hk : ∃ k, ioA ins vs k = some a
        · obtain ⟨k, hk⟩ := hk
          obtain ⟨c', _, _, x, _⟩ := p.io k a hk
          obtain ⟨o, ho⟩ := x.there
          exact ne_none ho
        · by_cases hn : ∃ n, Hk.P n = some a
          · obtain ⟨n, hn⟩ := hn
            exact p.sto.pin n a (p.kn.p _ _ hn)
          · obtain ⟨o, ho⟩ := Option.ne_none_iff_exists'.mp w1
            exact ne_none (p.kp a o ho (fun k e => hk ⟨k, e⟩) fun n z => absurd ⟨n, z⟩ hn)
      · unfold stoPut
        rw [List.length_set, L1]
        exact R.len
      · rcases back j s hj with ⟨rfl, rfl⟩ | hj
        · obtain ⟨o, h1, _⟩ := R.slot _ _ hS
          exact ⟨o, h1, trivial⟩
        · rcases L3 j s hj with ⟨hj, hne⟩ | ⟨k, a, c, t, x1, x2, x3, x4, rfl, x6⟩
          · obtain ⟨o, w1, w2⟩ := R.slot j s hj
            refine ⟨o, w1, ?_⟩
            have cell : ∀ b c, o = some (.ref b) → s.mut → Hk b = none → CellAt K Hk H b c → Hk' b = none ∧ CellAt K Hk' H' b c := fun b c eo ms hk hc => by
              subst eo
              obtain ⟨u, hu⟩ := hc.there
              refine ⟨fresh b (ne_none hu) hk, hc.mono p.kn.s fun o z => p.kp b o z (fun k e => hne k b e ms w1) fun n z => absurd z (R.psep j s b n hj ms w1)⟩
            cases s with
            | no => trivial
            | sto M => trivial
            | pin k => exact w2
            | val d =>
              obtain ⟨v, e, q⟩ := w2
              exact ⟨v, e, dv_mono p.kn.s _ _ q⟩
            | pv x =>
              obtain ⟨v, e, q⟩ := w2
              exact ⟨v, e, q.mono p.kn⟩
            | scr ns =>
              obtain ⟨a, e, q⟩ := w2
              exact ⟨a, e, p.kn.s.seq q⟩
            | own c =>
              obtain ⟨b, e, q1, q2, q3⟩ := w2
              obtain ⟨z1, z2⟩ := cell b c e trivial q1 q3
              exact ⟨b, e, z1, q2, z2⟩
            | io l c =>
              obtain ⟨b, e, q1, q2, q3⟩ := w2
              obtain ⟨z1, z2⟩ := cell b c e trivial q1 q3
              exact ⟨b, e, z1, q2, z2⟩
          · obtain ⟨o, w1, w2⟩ := R.slot j t x3
            rw [x6] at w1
            cases w1
            refine ⟨_, x6, ?_⟩
            obtain ⟨c', y1, y2, y3, _⟩ := p.io k a x1
            rw [x2] at y1
            cases y1
            cases t with
            | own c0 =>
              obtain ⟨b, e, q1, q2, q3⟩ := w2
              cases e
              exact ⟨a, rfl, y2, q2, y3⟩
            | io l c0 =>
              obtain ⟨b, e, q1, q2, q3⟩ := w2
              cases e
              exact ⟨a, rfl, y2, q2, y3⟩
            | _ => cases x4
      · have orig : ∀ (j : Nat) s, (stoPut e1 M')[j]? = some s → s.mut → ∃ t, env[j]? = some t ∧ t.mut := fun j s hj ms => by
          rcases back j s hj with ⟨rfl, _⟩ | hj
          · cases ms
          · rcases L3 j s hj with ⟨hj, _⟩ | ⟨k, a, c, t, x1, x2, x3, x4, rfl, x6⟩
            · exact ⟨s, hj, ms⟩
            · exact ⟨t, x3, x4⟩
        obtain ⟨s2, y1, y2⟩ := orig i s hi ms
        obtain ⟨t2, y3, y4⟩ := orig j t hj mt
        exact R.sep i j s2 t2 a y1 y3 y2 y4 g1 g2
      · have : HasSto (stoPut e1 M') M' := HasSto.put (show HasSto e1 M by unfold HasSto; rw [L1]; exact L2) M'
        rw [hM1.uniq this]
        exact ⟨p.sto.cel, p.sto.inj, p.sto.top⟩
      · refine ⟨p.sto.pin n a g, fun z => ?_⟩
        cases hn : Hk.P n with
        | some b =>
          have := p.kn.p _ _ hn
          rw [g] at this
          cases this
          exact (R.pin n a hn).2 (p.kn.s.free z)
        | none => exact .inl (R.fresh0 (p.new n a g hn z))
      · have orig : ∃ t, env[j]? = some t ∧ t.mut := by
          rcases back j s hj with ⟨rfl, _⟩ | hj
          · cases ms
          · rcases L3 j s hj with ⟨hj, _⟩ | ⟨k, a, c, t, x1, x2, x3, x4, rfl, x6⟩
            · exact ⟨s, hj, ms⟩
            · exact ⟨t, x3, x4⟩
        obtain ⟨t, x1, x2⟩ := orig
        obtain ⟨b, w1, w2, ⟨o, ho⟩, _⟩ := R.mutAt x1 x2
        rw [g] at w1
        cases w1
        cases hn : Hk.P n with
        | some b =>
          have := p.kn.p _ _ hn
          rw [e] at this
          cases this
          exact R.psep j t a n x1 x2 g hn
        | none =>
          have := p.new n a e hn (fresh a (ne_none ho) w2)
          rw [ho] at this
          cases this
    refine k v Hk' H' R2 p.kn ?_
    cases r' with
    | dat d => exact hres
    | pv q => exact hres
    | slt i => cases hres
    | new c =>
      obtain ⟨a, rfl, q1, q2, q3, q4⟩ := hres
      refine ⟨a, rfl, q1, R.fresh0 q2, q3, q4, fun j s hj ms e => ?_⟩
      have := R2.mutAt hj ms
      obtain ⟨b, w1, w2, w3, w4⟩ := this
      rw [e] at w1
      cases w1
      have orig : ∃ t, env[j]? = some t ∧ t.mut := by
        rcases set_get hj with ⟨_, rfl⟩ | ⟨_, hj⟩
        · cases ms
        · rcases L3 j s hj with ⟨hj, _⟩ | ⟨k, a, c, t, x1, x2, x3, x4, rfl, x6⟩
          · exact ⟨s, hj, ms⟩
          · exact ⟨t, x3, x4⟩
      obtain ⟨t, x1, x2⟩ := orig
      exact R.mutNe q2 x1 x2 e
  · cases h
def mCallM (fm : FMM) (io : Option Nat) (ms : MA) : ME := fun env => (ms env).bind fun p => callM fm io p.1 p.2
theorem callM_run {fm : FMM} {io : Option Nat} {ms : MA} {Q : VK} (h : tE K (mCallM fm io ms) σ H Q) : tCall (spM K fm) [] E0 (tA K ms) σ H Q := by
  obtain ⟨B, env, Hk, res, env', R, hm, k⟩ := h
  obtain ⟨⟨rs, e1⟩, h1, hm⟩ := Option.bind_eq_some_iff.mp hm
  refine ⟨B, env, Hk, rs, e1, R, h1, fun vs Hk1 H1 R1 s1 o1 => ?_⟩
  show spM K fm (vs ++ []) H1 Q E0
  rw [List.append_nil]
  exact callM_ok R1 hm o1 fun v Hk' H' R' s' q => k v Hk' H' R' (s1.trans s') q
theorem ve_callM {k : Nat} {f : Addr} {fd : FuncData} {ps : List Str} {fm : FMM} {x : Str} {p pos : Pos} {e : Expr} {es : List Expr} {ms : MA} (io : Option Nat) (F : FnOk X.prog X.w X.K X.mg X.base CX0 k f fd ps (spM X.K fm)) (hr : Room k X.A) (hm : X.mg x = some (.ref f)) (hk : PySem.W.keepIn X.K (.ref f) = true) (hb : Binds X.K fd ps [])
    (ha : VA X (e :: es) ms) (hg : Gl X x := by rfl) (hdb : (x == ("__debug__" : Str)) = false := by decide) (he : starEach (e :: es) X.env = (false, eval e X.env) :: starEach es X.env := by rfl) (hpl : (backTo pos (starEach es X.env)).any (·.1) = false := by rfl) :
    VE X (.Call (.Name x p) (e :: es) [] pos) (mCallM fm io ms) := (pe_call F hr hg hm hk hb .nil pass0 ha hdb he hpl).imp fun _ _ _ => callM_run
end
end Cm
/-! text[::-1], enumerate of a text -/
namespace Cm
open PySem PySem.Spec PyProof.Rows L2
def revS (z : Str) : Str := ⟨z.cps.toList.reverse.toArray⟩
theorem revS_by (z : Str) (u : Tok) : Txt.sliceBy z none none (-1, u) = revS z := by
  have h := step_rev_list z u
  have e : (List.range z.length).map (fun k => z.cps.getD (z.length - 1 - k) 0) = z.cps.toList.reverse := by
    apply List.ext_getElem
    · simp [Str.length]
    · intro i h1 h2
      simp [Str.length, Array.getD] at h1 h2 ⊢
      have h3 : z.cps.size - 1 - i < z.cps.size := by omega
      rw [dif_pos h3]
  rw [e] at h
  unfold revS
  rw [← h]
section
variable {X : Cx} {K : PySem.W.Frag}
def tRevS (te : TE) : TE := fun σ H Q => te σ H fun x H1 => ∃ z, x = .str z ∧ z.length ≤ sizeLine ∧ Q (.str (revS z)) H1
theorem pe_revS {e : Expr} {te : TE} {k : Nat} {p1 p2 p3 pos : Pos} (he : PE X e te) : PE X (.Subscript e (.Slice none none (some (.UnaryOp .USub (.Constant (.int 1) k p1) p2)) p3) pos) (tRevS te) := by
  refine ⟨fun pins s σ H Q I h => ?_⟩
  refine Subscript_ (thn (he.run pins s σ H _ I h) fun v s1 ⟨x, H1, I1, r1, q1⟩ => ?_)
  obtain ⟨z, ex, hx, q⟩ := q1
  subst ex
  obtain ⟨t, rfl⟩ := r1
  have hst : PO X (some (.UnaryOp .USub (.Constant (.int 1) k p1) p2)) (tPart (tUn (rU fun i => .int (-i)) (tC (.int 1)))) := po_some (pe_un un_neg pe_int)
  refine wpAny_Slice (thn (po_none.run pins s1 σ H1 (fun o H2 => o = none ∧ H2 = H1) I1 ⟨rfl, rfl⟩) fun vl s2 ⟨l, H2, I2, pl, el, e2⟩ => ?_)
  subst el e2
  refine thn (po_none.run pins s2 σ H2 (fun o H3 => o = none ∧ H3 = H2) I2 ⟨rfl, rfl⟩) fun vu s3 ⟨u, H3, I3, pu, eu, e3⟩ => ?_
  subst eu e3
  refine thn (hst.run pins s3 σ H3 (fun o H4 => o = some (-1) ∧ H4 = H3) I3 ⟨1, rfl, -1, rfl, rfl, rfl⟩) fun vs s4 ⟨o, H4, I4, ps, eo, e4⟩ => ?_
  subst eo e4
  have I5 : Inv X pins σ H4 { s4 with heap := s4.heap.push { cls := .type "slice", data := .fields #[vl, vu, vs] } } := I4.kept (t' := s4.toks) fun b ob q => Heap.get?_push_of_some _ q
  obtain ⟨l, rfl, hl⟩ := IsPart.raw pl
  obtain ⟨u, rfl, hu⟩ := IsPart.raw pu
  obtain ⟨c, rfl, hc⟩ := IsPart.raw ps
  cases l with
  | some l => cases hl
  | none =>
  cases u with
  | some u => cases hu
  | none =>
  cases c with
  | none => cases hc
  | some c =>
  obtain ⟨ci, ct⟩ := c
  cases hc
  show wpAny (model X.prog X.w) X.A (subscriptTail e (.Slice none none (some (.UnaryOp .USub (.Constant (.int 1) k p1) p2)) p3) (.str z t) (.ref s4.heap.objs.size)) (EP X pins σ Q) X.xe { s4 with heap := s4.heap.push { cls := .type "slice", data := .fields #[partValue none, partValue none, partValue (some (-1, ct))] } }
  refine tail_any (ops := [.str z t, .ref s4.heap.objs.size]) (typeIs_str _ z t) (F.slot_str_getitem.lookup) ?_ (by with_unfolding_all rfl)
  refine wpAny_getItem_str_slice (l := none) (u := none) (st := some (-1, ct)) ⟨_, Heap.get?_push_size _ rfl, rfl, rfl⟩ rfl ?_
  have e1 : sliceMade z t none none (some (-1, ct)) = Made.str (revS z) := by
    rw [← revS_by z ct]
    unfold sliceMade Txt.sliceBy
    rfl
  rw [e1]
  have hlen : (revS z).length ≤ sizeLine := by
    have : (revS z).length = z.length := by unfold revS Str.length; simp
    rw [this]
    exact hx
  exact ⟨hlen, .str _, H4, I5.tok _, ⟨_, rfl⟩, q⟩
def mRevS (m : ME) : ME := fun env => (m env).bind fun p => match p.1 with
  | .dat (.str z) => if z.length ≤ 100000 then some (.dat (.str (revS z)), p.2) else none
  | _ => none
theorem revS_run {m : ME} {σ : L2.St} {H : Hp} {Q : VK} (h : tE K (mRevS m) σ H Q) : tRevS (tE K m) σ H Q := by
  obtain ⟨B, env, Hk, res, env', R, hm, k⟩ := h
  obtain ⟨⟨x, e0⟩, h0, hm⟩ := Option.bind_eq_some_iff.mp hm
  refine ⟨B, env, Hk, x, e0, R, h0, fun v Hk1 H1 R1 s1 o1 => ?_⟩
  split at hm
  · rename_i z hx
    cases hx
    split at hm
    · rename_i hz
      cases hm
      exact ⟨z, (by cases (show Dv K Hk1.k v (.str z) from o1); rfl), sz_of hz, k _ Hk1 H1 R1 s1 (show Dv K _ _ (.str _) from .str _)⟩
    · cases hm
  · cases hm
theorem ve_revS {e : Expr} {m : ME} {k : Nat} {p1 p2 p3 pos : Pos} (he : VE X e m) : VE X (.Subscript e (.Slice none none (some (.UnaryOp .USub (.Constant (.int 1) k p1) p2)) p3) pos) (mRevS m) := (pe_revS he).imp fun _ _ _ => revS_run
end
section
variable {β γ : Type} {env e : Sl} {R : Option β} {m : ME} {K : Res → Sl → Option β}
def revSK (r : Res) (e : Sl) (K : Res → Sl → Option β) : Option β := match r with
  | .dat (.str z) => if z.length ≤ 100000 then K (.dat (.str (revS z))) e else none
  | _ => none
theorem c_revS (k : bnd (m env) (fun r e => revSK r e K) = R) : bnd (mRevS m env) K = R := by
  rw [← k]; unfold mRevS bnd revSK
  cases m env with
  | none => rfl
  | some p =>
    cases p with
    | mk r e =>
      simp only [Option.bind_some]
      cases r with
      | dat d =>
        cases d with
        | str z =>
          by_cases hz : z.length ≤ 100000
          · simp only [if_pos hz]; rfl
          · simp only [if_neg hz]; rfl
        | _ => rfl
      | _ => rfl
def pRevS (z : Str) : Option Str := if z.length ≤ 100000 then some (revS z) else none
theorem c_revSK {z : Str} {k : Str → Option γ} {h : γ → Option β} (p : ∀ t, K (.dat (eS t)) e = (k t).bind h) : revSK (.dat (eS z)) e K = ((pRevS z).bind k).bind h := by
  unfold revSK pRevS eS
  by_cases hz : z.length ≤ 100000
  · simp only [if_pos hz]; exact p _
  · simp only [if_neg hz]; rfl
end
/-! ### enumerate(text) -/
def ItES (x : Str) : It :=
  ⟨fun i H => i < x.cps.size, fun i H v H' => ∃ T c, v = .ref T ∧ H T = none ∧ H' = upd H T (.tup [.int (i : Nat), .str ⟨#[c]⟩]) ∧ x.cps[i]? = some c, fun i H => x.cps.size ≤ i⟩
theorem turn_enumS {P : Program} {w : World} {K : PySem.W.Frag} {elts : List Expr} {kk : Nat} {tpos : Pos} (x : Str) (t : Tok) (N : Nat) :
    Turn P w K (.Tuple elts kk tpos) (ItES x) [N + 1, N] (N + 1) (fun i h => i ≤ x.cps.size ∧ (∃ old, IsEnum h (N + 1) N (0 + (i : Int)) old) ∧ h.IsStrIter N (strIterType x) x t i) where
  mem := by simp
  obj := fun i h st b hb => by
    obtain ⟨_, ⟨old, he⟩, ⟨o, ho, hc, hd⟩⟩ := st
    have e' : b = N + 1 ∨ b = N := by simpa using hb
    rcases e' with z | z
    · rw [z]; exact ⟨_, he, fun v q => nomatch q⟩
    · rw [z]; exact ⟨o, ho, fun v q => by rw [hd] at q; cases q⟩
  keep := fun i h h' st k => by
    obtain ⟨hn, ⟨old, he⟩, ⟨o, ho, q⟩⟩ := st
    exact ⟨hn, ⟨old, k _ (by simp) _ he⟩, ⟨o, k _ (by simp) _ ho, q⟩⟩
  item := by
    intro X hP hw hK hc i pins s σ H E I hf st hg
    subst hP hw hK
    obtain ⟨hn, he, hit⟩ := st
    have hlt : N + 1 < s.heap.objs.size := by obtain ⟨_, he⟩ := he; exact Heap.lt_size he
    have h1 : X.A.in1.handled = none := I.ok.hd hc
    have W := GoesN.enumFrom (A := X.A) (elts := elts) (x1 := kk) (pos := tpos) 0 (Draws.text (prog := X.prog) (w := X.w) h1 N x t) (N + 1) (Nat.succ_ne_self _) (by simp) (by simp)
    refine W.goes i s _ E hg ⟨he, hit⟩ fun v h' tk hY st' hk _ => ?_
    obtain ⟨T, u, y, rfl, hT, hp, tup⟩ := hY
    obtain ⟨c, u', hc', rfl⟩ := hp
    have new : ObjOk X.prog X.w (upd H T (.tup [.int (i : Nat), .str ⟨#[c]⟩])) h' T (.tup [.int (i : Nat), .str ⟨#[c]⟩]) :=
      ⟨by show 2 ≤ sizeLine; decide, [.int (0 + (i : Int)) u, .str ⟨#[c]⟩ u'], .cons ⟨u, by rw [Int.zero_add]⟩ (.cons ⟨u', rfl⟩ .nil), tup⟩
    have I1 : Inv X pins σ (upd H T (.tup [.int (i : Nat), .str ⟨#[c]⟩])) { s with heap := h', toks := tk } :=
      I.turnedNew (t' := tk) (ch := [N + 1, N]) (fun b o hb q => hk b o (fun z => hb (by simp only [List.mem_cons, List.mem_nil_iff, or_false] at z ⊢; rcases z with z | z <;> simp [z])) q) hf hT new
    refine ⟨.ref T, _, I1, rfl, ⟨T, c, rfl, I.hok.fresh hT, rfl, hc'⟩, ⟨hg, st'.1, st'.2⟩, fun b hb => ?_⟩
    have hbT : b ≠ T := by
      have : b < T := by
        have e' : b = N + 1 ∨ b = N := by simpa using hb
        rcases e' with z | z <;> rw [z]
        · exact Nat.lt_of_lt_of_le hlt hT
        · exact Nat.lt_of_lt_of_le (by omega) hT
      exact Nat.ne_of_lt this
    rw [upd_ne hbT]
    exact (hf b hb).1
  done := by
    intro X hP hw hK hc i pins s σ H E I hf st hg
    subst hP hw hK
    obtain ⟨hn, he, hit⟩ := st
    have hg : x.cps.size ≤ i := hg
    have hin : i = x.cps.size := Nat.le_antisymm hn hg
    subst hin
    have h1 : X.A.in1.handled = none := I.ok.hd hc
    have W := GoesN.enumFrom (A := X.A) (elts := elts) (x1 := kk) (pos := tpos) 0 (Draws.text (prog := X.prog) (w := X.w) h1 N x t) (N + 1) (Nat.succ_ne_self _) (by simp) (by simp)
    refine W.stops s _ E ⟨he, hit⟩ fun h' tk hk _ => ?_
    exact I.turnedL (t' := tk) (ch := [N + 1, N]) (fun b o hb q => hk b o (fun z => hb (by simp only [List.mem_cons, List.mem_nil_iff, or_false] at z ⊢; rcases z with z | z <;> simp [z])) q) hf
  self := fun A i s Q E st h => let ⟨_, ⟨_, he⟩, _⟩ := st; wpAny_pyIter_enum he h
section
variable {X : Cx} {K : PySem.W.Frag}
def iEnumS (ta : TA) : TI := fun σ H R => ta σ H fun vs H1 => ∃ x, vs = [.str x] ∧ R (ItES x) H1
theorem pi_enumS {e : Expr} {ta : TA} {p pos tpos : Pos} {elts : List Expr} {kk : Nat} (hg : Gl X "enumerate") (hm : X.mg "enumerate" = none) (ha : PA X [e] ta) (hs : starEach [e] X.env = [(false, eval e X.env)] := by rfl) :
    PI X (.Tuple elts kk tpos) (.Call (.Name "enumerate" p) [e] [] pos) (iEnumS ta) := by
  refine ⟨fun pins s σ H R I h => ?_⟩
  refine Call_ (ld_blt I hg hm boot_enumerate (PyProof.Rows.callWith_type1 (thn (ha.run pos pins s σ H _ I h) fun us s1 ⟨vs, H1, I1, r1, q1⟩ => ?_) hs rfl))
  obtain ⟨x, ex, q⟩ := q1
  subst ex
  cases r1 with
  | cons r rr =>
    cases rr
    obtain ⟨t, rfl⟩ := r
    refine call_enumerate_str fun h' he hit hsz hk => wpAny_pyIter_enum he ?_
    have I2 : Inv X pins σ H1 { s1 with heap := h' } := I1.kept (t' := s1.toks) hk
    refine ⟨s1.heap.objs.size + 1, [s1.heap.objs.size + 1, s1.heap.objs.size], _, _, H1, rfl, I2, turn_enumS x t s1.heap.objs.size, ⟨Nat.zero_le _, ⟨.none, he⟩, hit⟩, fun b hb => ?_, q⟩
    have e' : b = s1.heap.objs.size + 1 ∨ b = s1.heap.objs.size := by simpa using hb
    have hle : s1.heap.objs.size ≤ b := by
      rcases e' with z | z
      · rw [z]; exact Nat.le_add_right _ _
      · rw [z]; exact Nat.le_refl _
    exact I1.fpOk hle (I1.hok.fresh hle)
def mEnumS (ms : MA) : MI := fun env => (ms env).bind fun p => match p.1 with
  | [.dat (.str x)] => some (enumD 0 ((signs x).map PyData.str), p.2)
  | _ => none
theorem enumS_run {ms : MA} {σ : L2.St} {H : Hp} {R : It → Hp → Prop} (h : tI K (mEnumS ms) σ H R) : iEnumS (tA K ms) σ H R := by
  obtain ⟨B, env, Hk, ds, env', R0, hm, k⟩ := h
  obtain ⟨⟨rs, e1⟩, h1, hm⟩ := Option.bind_eq_some_iff.mp hm
  refine ⟨B, env, Hk, rs, e1, R0, h1, fun vs Hk1 H1 R1 s1 o1 => ?_⟩
  split at hm
  · rename_i x he
    cases hm
    have he : rs = [.dat (.str x)] := he
    subst he
    cases o1 with
    | cons o1 o2 =>
      cases o2
      cases (show Dv K Hk1.k _ (.str x) from o1)
      refine ⟨x, rfl, k _ Hk1 H1 R1 s1 ?_⟩
      intro Hk2 H2 s2 e2 i
      have hl : (signs x).length = x.cps.size := by simp [signs]
      refine ⟨fun d hi => ?_, fun hx => ?_⟩
      · obtain ⟨y, q1, rfl⟩ := enumD_get 0 _ i d hi
        rw [List.getElem?_map] at q1
        obtain ⟨z, q2, rfl⟩ := Option.map_eq_some_iff.mp q1
        have hlt : i < x.cps.size := by rw [← hl]; exact (List.getElem?_eq_some_iff.mp q2).1
        refine ⟨hlt, fun y H' z' => ?_⟩
        obtain ⟨T, c, rfl, hT, rfl, hx⟩ := z'
        have : z = ⟨#[c]⟩ := by
          unfold signs at q2
          rw [List.getElem?_map, Array.getElem?_toList, hx] at q2
          cases q2
          rfl
        subst this
        refine .inr ⟨T, _, _, rfl, rfl, hT, rfl, .cons ?_ (.cons (.str _) .nil)⟩
        rw [Nat.zero_add]
        exact .int _
      · rw [enumD_len, List.length_map, hl] at hx
        exact hx
  · cases hm
theorem vi_enumS {e : Expr} {ms : MA} {p pos tpos : Pos} {elts : List Expr} {kk : Nat} (hm : X.mg "enumerate" = none) (ha : VA X [e] ms) (hg : Gl X "enumerate" := by rfl) (hs : starEach [e] X.env = [(false, eval e X.env)] := by rfl) :
    VI X (.Tuple elts kk tpos) (.Call (.Name "enumerate" p) [e] [] pos) (mEnumS ms) := (pi_enumS hg hm ha hs).imp fun _ _ _ => enumS_run
end
section
variable {β γ : Type} {env e : Sl} {R : Option β} {ms : MA} {K : List PyData → Sl → Option β}
def enumSK (rs : List Res) (e : Sl) (K : List PyData → Sl → Option β) : Option β := match rs with
  | [.dat (.str x)] => K (enumD 0 ((signs x).map PyData.str)) e
  | _ => none
theorem c_enumS (k : bnd (ms env) (fun rs e => enumSK rs e K) = R) : bnd (mEnumS ms env) K = R := by
  rw [← k]; unfold mEnumS bnd enumSK
  cases ms env with
  | none => rfl
  | some p =>
    cases p with
    | mk rs e =>
      rcases rs with _ | ⟨r1, _ | ⟨r2, rs⟩⟩
      · rfl
      · cases r1 with
        | dat d => cases d <;> rfl
        | _ => rfl
      · cases r1 with
        | dat d => cases d <;> rfl
        | _ => rfl
theorem c_enumSK {x : Str} (k : K ((enumI 0 (signs x)).map (eT2 eI eS)) e = R) : enumSK [.dat (eS x)] e K = R := by
  show K (enumD 0 ((signs x).map eS)) e = R
  rw [enum_map]; exact k
end
end Cm
set_option synthInstance.maxSize 10000
set_option synthInstance.maxHeartbeats 400000
local macro_rules | `(tactic| walk_at "fl") => `(tactic| first | rfl | (simp [Cm.flatR, Cm.flatS, Cm.flatD]; done) | (simp only [Cm.flatR, Cm.flatS, List.all_cons, List.all_nil, Bool.and_true]; exact Cm.flat_eO fun _ => rfl))
local macro_rules | `(tactic| walk_at "ik") => `(tactic| first | rfl | (simp [Cm.ioKept]; done))
/-! ### the text by places: law_k01_measures_written -/
namespace Lw
open PySem L2 Cm
def topS (i : Nat) : Stmt := PySem.Challenge.pw_campcarry_k01_measures_written.main.body.getD i (.Pass ⟨0, 0, 0, 0⟩)
abbrev s_w_folded : Stmt := topS 15
theorem sc_w_folded : FnScope ["_law_script", "_law_size", "_law_cells", "_law_k", "_law_cell"] ["_law_script", "_law_size"] (defScope s_w_folded) := ⟨rfl, rfl, rfl, by decide +kernel, rfl, by decide +kernel, by decide +kernel⟩
abbrev s_units_text : Stmt := topS 6
theorem sc_units_text : FnScope ["number", "units", "found", "left", "letter", "worth"] ["number", "units"] (defScope s_units_text) := ⟨rfl, rfl, rfl, by decide +kernel, rfl, by decide +kernel, by decide +kernel⟩
abbrev s_weight_text : Stmt := topS 8
theorem sc_weight_text : FnScope ["pounds"] ["pounds"] (defScope s_weight_text) := ⟨rfl, rfl, rfl, by decide +kernel, rfl, by decide +kernel, by decide +kernel⟩
abbrev s_length_text : Stmt := topS 10
theorem sc_length_text : FnScope ["rods"] ["rods"] (defScope s_length_text) := ⟨rfl, rfl, rfl, by decide +kernel, rfl, by decide +kernel, by decide +kernel⟩
abbrev s_plain_number : Stmt := topS 5
theorem sc_plain_number : FnScope ["text", "sign"] ["text"] (defScope s_plain_number) := ⟨rfl, rfl, rfl, by decide +kernel, rfl, by decide +kernel, by decide +kernel⟩
abbrev s_units_in : Stmt := topS 7
theorem sc_units_in : FnScope ["text", "units", "found", "rest", "letter", "worth", "head", "mark", "tail", "many"] ["text", "units"] (defScope s_units_in) := ⟨rfl, rfl, rfl, by decide +kernel, rfl, by decide +kernel, by decide +kernel⟩
abbrev s_weight_in : Stmt := topS 9
theorem sc_weight_in : FnScope ["text"] ["text"] (defScope s_weight_in) := ⟨rfl, rfl, rfl, by decide +kernel, rfl, by decide +kernel, by decide +kernel⟩
abbrev s_length_in : Stmt := topS 11
theorem sc_length_in : FnScope ["text"] ["text"] (defScope s_length_in) := ⟨rfl, rfl, rfl, by decide +kernel, rfl, by decide +kernel, by decide +kernel⟩
abbrev s_w_box : Stmt := topS 13
theorem sc_w_box : FnScope ["_law_script", "_law_k", "_law_cell"] ["_law_script", "_law_k"] (defScope s_w_box) := ⟨rfl, rfl, rfl, by decide +kernel, rfl, by decide +kernel, by decide +kernel⟩
abbrev s_w_take : Stmt := topS 14
theorem sc_w_take : FnScope ["_law_box_here", "_law_many", "_law_step", "_law_once", "_law_twice", "_law_found"] ["_law_box_here", "_law_many"] (defScope s_w_take) := ⟨rfl, rfl, rfl, by decide +kernel, rfl, by decide +kernel, by decide +kernel⟩
abbrev s_w_wide : Stmt := topS 16
theorem sc_w_wide : FnScope ["_law_box_here", "_law_many", "_law_found", "_law_turn"] ["_law_box_here", "_law_many"] (defScope s_w_wide) := ⟨rfl, rfl, rfl, by decide +kernel, rfl, by decide +kernel, by decide +kernel⟩
abbrev s_w_number : Stmt := topS 18
theorem sc_w_number : FnScope ["_law_box_here", "_law_units", "_law_way", "_law_near"] ["_law_box_here", "_law_units"] (defScope s_w_number) := ⟨rfl, rfl, rfl, by decide +kernel, rfl, by decide +kernel, by decide +kernel⟩
abbrev s_w_written : Stmt := topS 19
theorem sc_w_written : FnScope ["_law_number_here", "_law_units", "_law_letters", "_law_parts", "_law_words", "_law_many", "_law_letter"] ["_law_number_here", "_law_units", "_law_letters"] (defScope s_w_written) := ⟨rfl, rfl, rfl, by decide +kernel, rfl, by decide +kernel, by decide +kernel⟩
abbrev s_w_same : Stmt := topS 17
theorem sc_w_same : FnScope ["_law_found", "_law_due", "_law_one", "_law_other"] ["_law_found", "_law_due"] (defScope s_w_same) := ⟨rfl, rfl, rfl, by decide +kernel, rfl, by decide +kernel, by decide +kernel⟩
abbrev s_w_right : Stmt := topS 20
theorem sc_w_right : FnScope ["_law_box_here", "_law_turn", "_law_one", "_law_other", "_law_due", "_law_again", "_law_read"] ["_law_box_here"] (defScope s_w_right) := ⟨rfl, rfl, rfl, by decide +kernel, rfl, by decide +kernel, by decide +kernel⟩
abbrev s_law : Stmt := topS 21
theorem sc_law : FnScope ["_law_script", "_law_cells", "_law_k"] ["_law_script"] (defScope s_law) := ⟨rfl, rfl, rfl, by decide +kernel, rfl, by decide +kernel, by decide +kernel⟩
abbrev FnP (K : PySem.W.Frag) (x : Str) (st : Stmt) (f : Addr) (fd : FuncData) : Prop := FunD K x x (defArgs st) (defBody st) (defScope st) [] [] f fd
def c_FIGURES : PyData := .str "0123456789"
def c_LENGTH_UNITS : PyData := .tuple [.tuple [.str "m", .int 320], .tuple [.str "f", .int 40], .tuple [.str "r", .int 1]]
def v_LENGTH_UNITS : (List (Str × Int)) := [("m", 320), ("f", 40), ("r", 1)]
def c_MOST_FIGURES : PyData := .int 9
def c_WEIGHT_UNITS : PyData := .tuple [.tuple [.str "c", .int 112], .tuple [.str "s", .int 14], .tuple [.str "p", .int 1]]
def v_WEIGHT_UNITS : (List (Str × Int)) := [("c", 112), ("s", 14), ("p", 1)]
structure Tx (w : World) (K : PySem.W.Frag) (mg : Str → Option Value) (fd : Nat → FuncData) : Prop where
  F_w_folded : FnP K "_law_folded" s_w_folded (He.ga K "_law_folded") (fd 0)
  g_w_folded : mg "_law_folded" = some (.ref (He.ga K "_law_folded"))
  F_units_text : FnP K "units_text" s_units_text (He.ga K "units_text") (fd 1)
  g_units_text : mg "units_text" = some (.ref (He.ga K "units_text"))
  F_weight_text : FnP K "weight_text" s_weight_text (He.ga K "weight_text") (fd 2)
  g_weight_text : mg "weight_text" = some (.ref (He.ga K "weight_text"))
  F_length_text : FnP K "length_text" s_length_text (He.ga K "length_text") (fd 3)
  g_length_text : mg "length_text" = some (.ref (He.ga K "length_text"))
  F_plain_number : FnP K "plain_number" s_plain_number (He.ga K "plain_number") (fd 4)
  g_plain_number : mg "plain_number" = some (.ref (He.ga K "plain_number"))
  F_units_in : FnP K "units_in" s_units_in (He.ga K "units_in") (fd 5)
  g_units_in : mg "units_in" = some (.ref (He.ga K "units_in"))
  F_weight_in : FnP K "weight_in" s_weight_in (He.ga K "weight_in") (fd 6)
  g_weight_in : mg "weight_in" = some (.ref (He.ga K "weight_in"))
  F_length_in : FnP K "length_in" s_length_in (He.ga K "length_in") (fd 7)
  g_length_in : mg "length_in" = some (.ref (He.ga K "length_in"))
  F_w_box : FnP K "_law_box" s_w_box (He.ga K "_law_box") (fd 8)
  g_w_box : mg "_law_box" = some (.ref (He.ga K "_law_box"))
  F_w_take : FnP K "_law_take" s_w_take (He.ga K "_law_take") (fd 9)
  g_w_take : mg "_law_take" = some (.ref (He.ga K "_law_take"))
  F_w_wide : FnP K "_law_wide" s_w_wide (He.ga K "_law_wide") (fd 10)
  g_w_wide : mg "_law_wide" = some (.ref (He.ga K "_law_wide"))
  F_w_number : FnP K "_law_number" s_w_number (He.ga K "_law_number") (fd 11)
  g_w_number : mg "_law_number" = some (.ref (He.ga K "_law_number"))
  F_w_written : FnP K "_law_written" s_w_written (He.ga K "_law_written") (fd 12)
  g_w_written : mg "_law_written" = some (.ref (He.ga K "_law_written"))
  F_w_same : FnP K "_law_same" s_w_same (He.ga K "_law_same") (fd 13)
  g_w_same : mg "_law_same" = some (.ref (He.ga K "_law_same"))
  F_w_right : FnP K "_law_right" s_w_right (He.ga K "_law_right") (fd 14)
  g_w_right : mg "_law_right" = some (.ref (He.ga K "_law_right"))
  F_law : FnP K "law" s_law (He.ga K "law") (fd 15)
  g_law : mg "law" = some (.ref (He.ga K "law"))
  b_abs : mg "abs" = none
  b_all : mg "all" = none
  b_bool : mg "bool" = none
  b_enumerate : mg "enumerate" = none
  b_int : mg "int" = none
  b_isinstance : mg "isinstance" = none
  b_len : mg "len" = none
  b_list : mg "list" = none
  b_max : mg "max" = none
  b_range : mg "range" = none
  b_str : mg "str" = none
  b_tuple : mg "tuple" = none
  b_zip : mg "zip" = none
  k_FIGURES : ∃ t, mg "FIGURES" = some (.str "0123456789" t)
  k_LENGTH_UNITS : mg "LENGTH_UNITS" = some (.ref (He.ga K "LENGTH_UNITS")) ∧ ∀ H, Dv K H (.ref (He.ga K "LENGTH_UNITS")) c_LENGTH_UNITS
  k_MOST_FIGURES : ∃ t, mg "MOST_FIGURES" = some (.int 9 t)
  k_WEIGHT_UNITS : mg "WEIGHT_UNITS" = some (.ref (He.ga K "WEIGHT_UNITS")) ∧ ∀ H, Dv K H (.ref (He.ga K "WEIGHT_UNITS")) c_WEIGHT_UNITS
noncomputable section
variable {P : Program} {w : World} {K : PySem.W.Frag} {mg : Str → Option Value} {base : Heap} {fd : Nat → FuncData}
theorem ve_c_FIGURES {X : Cx} {pos : Pos} (T : Tx X.w X.K X.mg fd) (hg : Gl X "FIGURES" := by rfl) : VE X (.Name "FIGURES" pos) (mC c_FIGURES) := let ⟨t, h⟩ := T.k_FIGURES; ve_glob hg h (show RelV (.str "0123456789") _ from ⟨t, rfl⟩) (fun _ => .str _)
theorem ve_c_LENGTH_UNITS {X : Cx} {pos : Pos} (T : Tx X.w X.K X.mg fd) (hg : Gl X "LENGTH_UNITS" := by rfl) : VE X (.Name "LENGTH_UNITS" pos) (mC c_LENGTH_UNITS) := ve_glob (v := .ref (He.ga X.K "LENGTH_UNITS")) hg T.k_LENGTH_UNITS.1 rfl T.k_LENGTH_UNITS.2
theorem ve_c_MOST_FIGURES {X : Cx} {pos : Pos} (T : Tx X.w X.K X.mg fd) (hg : Gl X "MOST_FIGURES" := by rfl) : VE X (.Name "MOST_FIGURES" pos) (mC c_MOST_FIGURES) := let ⟨t, h⟩ := T.k_MOST_FIGURES; ve_glob hg h (show RelV (.int 9) _ from ⟨t, rfl⟩) (fun _ => .int _)
theorem ve_c_WEIGHT_UNITS {X : Cx} {pos : Pos} (T : Tx X.w X.K X.mg fd) (hg : Gl X "WEIGHT_UNITS" := by rfl) : VE X (.Name "WEIGHT_UNITS" pos) (mC c_WEIGHT_UNITS) := ve_glob (v := .ref (He.ga X.K "WEIGHT_UNITS")) hg T.k_WEIGHT_UNITS.1 rfl T.k_WEIGHT_UNITS.2
theorem bi_w_folded (T : Tx w K mg fd) : Binds K (fd 0) ["_law_script", "_law_size"] [] := T.F_w_folded.bindsN fun _ _ _ _ _ _ us hl => match us, hl with | [_, _], _ => rfl
theorem bi_units_text (T : Tx w K mg fd) : Binds K (fd 1) ["number", "units"] [] := T.F_units_text.bindsN fun _ _ _ _ _ _ us hl => match us, hl with | [_, _], _ => rfl
theorem bi_weight_text (T : Tx w K mg fd) : Binds K (fd 2) ["pounds"] [] := T.F_weight_text.bindsN fun _ _ _ _ _ _ us hl => match us, hl with | [_], _ => rfl
theorem bi_length_text (T : Tx w K mg fd) : Binds K (fd 3) ["rods"] [] := T.F_length_text.bindsN fun _ _ _ _ _ _ us hl => match us, hl with | [_], _ => rfl
theorem bi_plain_number (T : Tx w K mg fd) : Binds K (fd 4) ["text"] [] := T.F_plain_number.bindsN fun _ _ _ _ _ _ us hl => match us, hl with | [_], _ => rfl
theorem bi_units_in (T : Tx w K mg fd) : Binds K (fd 5) ["text", "units"] [] := T.F_units_in.bindsN fun _ _ _ _ _ _ us hl => match us, hl with | [_, _], _ => rfl
theorem bi_weight_in (T : Tx w K mg fd) : Binds K (fd 6) ["text"] [] := T.F_weight_in.bindsN fun _ _ _ _ _ _ us hl => match us, hl with | [_], _ => rfl
theorem bi_length_in (T : Tx w K mg fd) : Binds K (fd 7) ["text"] [] := T.F_length_in.bindsN fun _ _ _ _ _ _ us hl => match us, hl with | [_], _ => rfl
theorem bi_w_box (T : Tx w K mg fd) : Binds K (fd 8) ["_law_script", "_law_k"] [] := T.F_w_box.bindsN fun _ _ _ _ _ _ us hl => match us, hl with | [_, _], _ => rfl
theorem bi_w_take (T : Tx w K mg fd) : Binds K (fd 9) ["_law_box_here", "_law_many"] [] := T.F_w_take.bindsN fun _ _ _ _ _ _ us hl => match us, hl with | [_, _], _ => rfl
theorem bi_w_wide (T : Tx w K mg fd) : Binds K (fd 10) ["_law_box_here", "_law_many"] [] := T.F_w_wide.bindsN fun _ _ _ _ _ _ us hl => match us, hl with | [_, _], _ => rfl
theorem bi_w_number (T : Tx w K mg fd) : Binds K (fd 11) ["_law_box_here", "_law_units"] [] := T.F_w_number.bindsN fun _ _ _ _ _ _ us hl => match us, hl with | [_, _], _ => rfl
theorem bi_w_written (T : Tx w K mg fd) : Binds K (fd 12) ["_law_number_here", "_law_units", "_law_letters"] [] := T.F_w_written.bindsN fun _ _ _ _ _ _ us hl => match us, hl with | [_, _, _], _ => rfl
theorem bi_w_same (T : Tx w K mg fd) : Binds K (fd 13) ["_law_found", "_law_due"] [] := T.F_w_same.bindsN fun _ _ _ _ _ _ us hl => match us, hl with | [_, _], _ => rfl
theorem bi_w_right (T : Tx w K mg fd) : Binds K (fd 14) ["_law_box_here"] [] := T.F_w_right.bindsN fun _ _ _ _ _ _ us hl => match us, hl with | [_], _ => rfl
theorem bi_law (T : Tx w K mg fd) : Binds K (fd 15) ["_law_script"] [] := T.F_law.bindsN fun _ _ _ _ _ _ us hl => match us, hl with | [_], _ => rfl
def m_w_folded_b1 : MS := (mAft [3, 4] (mAsg (mOp gAdd (mOp gIx (mName 2) (mOp gMod (mName 3) (mName 1))) (mOp gMul (mName 4) (mOp gAdd (mName 3) (mC (.int 2))))) (mgSub 2 (mOp gMod (mName 3) (mName 1)))))
def P_w_folded_b2 (size : Int) (xx : (Int × Int)) (ss : (List Int)) : Option (List Int) :=
  (pMod xx.1 size).bind fun t2 =>
  (pIx ss t2).bind fun t3 =>
  (pMul xx.2 (xx.1 + 2)).bind fun t4 =>
  (pMod xx.1 size).bind fun t5 =>
  (pSet ss t5 (t3 + t4)).bind fun cells6 =>
  some cells6
theorem s_w_folded_b2 (o0 : Slot) (size : Int) (xx : (Int × Int)) (ss : (List Int)) : ((mgTup (mgCons (mgName 3) (mgCons (mgName 4) mgNil))) ((eT2 eI eI) xx) [o0, .val (eI size), .own (.lst (ss.map eI)), .no, .no]).bind m_w_folded_b1 = (P_w_folded_b2 size xx ss).map (outN (fun ss : (List Int) => [o0, .val (eI size), .own (.lst (ss.map eI)), .no, .no])) := c_body (by
  unfold P_w_folded_b2 m_w_folded_b1
  refine c_gtup ?_
  refine c_gcons ?_
  refine c_gname (e2 := [o0, .val (eI size), .own (.lst (ss.map eI)), .val (eI xx.1), .no]) rfl ?_
  refine c_gcons ?_
  refine c_gname (e2 := [o0, .val (eI size), .own (.lst (ss.map eI)), .val (eI xx.1), .val (eI xx.2)]) rfl ?_
  refine c_gnil ?_
  refine c_aft ?_
  refine c_asg ?_
  refine c_op ?_
  refine c_op ?_
  refine c_nameO rfl ?_
  refine c_op ?_
  refine c_nameV rfl ?_
  refine c_nameV rfl ?_
  refine c_opK rfl rfl ?_
  refine c_cal x_mod fun t2 => ?_
  refine c_opK rfl rfl ?_
  refine c_cal (x_ix (e := eI) (l := ss)) fun t3 => ?_
  refine c_op ?_
  refine c_nameV rfl ?_
  refine c_op ?_
  refine c_nameV rfl ?_
  refine c_c ?_
  refine c_opK rfl rfl ?_
  refine c_pur x_add ?_
  refine c_opK rfl rfl ?_
  refine c_cal x_mul fun t4 => ?_
  refine c_opK rfl rfl ?_
  refine c_pur x_add ?_
  refine c_frzD ?_
  refine c_asgK ?_
  refine c_gsub rfl ?_
  refine c_op ?_
  refine c_nameV rfl ?_
  refine c_nameV rfl ?_
  refine c_opK rfl rfl ?_
  refine c_cal x_mod fun t5 => ?_
  refine c_gsubP eI ss (t3 + t4) (fun cells6 => [o0, .val (eI size), .own (.lst (cells6.map eI)), .val (eI xx.1), .val (eI xx.2)]) rfl (fun _ => rfl) fun cells6 => ?_
  refine c_aftN (e2 := [o0, .val (eI size), .own (.lst (cells6.map eI)), .no, .no]) rfl ?_
  exact rfl)
def m_w_folded : MS := (mSeq (mSet 2 (mCB gList (mCons (mSlScr 0 mNoPart (mPart (mName 1))) mNil)))
    (mSeq (mBef [3, 4] (mFor (mEnum (mCons (mFrz (mSlScr 0 (mPart (mName 1)) (mPart (mC (.int 63))))) mNil)) (mgTup (mgCons (mgName 3) (mgCons (mgName 4) mgNil))) m_w_folded_b1))
    (mRetW [0, 1, 2, 3, 4] (mName 2))))
def fm_w_folded : FM := fmOf 2 5 m_w_folded
theorem ok_w_folded (T : Tx w K mg fd) : FnOk P w K mg base CX0 1 (He.ga K "_law_folded") (fd 0) ["_law_script", "_law_size"] (spF K fm_w_folded) :=
  fn_ok T.F_w_folded sc_w_folded fun cdv A outer s H E hr => (show VSs _ _ m_w_folded from (vs_cons (vs_set (i := 2) sc_w_folded.nd (ve_callTy call_list_of cd_list (by rfl) T.b_list (by decide +kernel) (va_cons (ve_sliceScr 0 vo_none (vo_some (ve_name 1))) va_nil)))
      (vs_cons (vs_bef (ws := [3, 4]) (vs_for PassesOwn.never (vi_enum T.b_enumerate (va_cons (ve_frz (ve_sliceScr 0 (vo_some (ve_name 1)) (vo_some ve_int))) va_nil)) (vg_tup (vgs_cons (vg_name (j := 3) sc_w_folded.nd) (vgs_cons (vg_name (j := 4) sc_w_folded.nd) vgs_nil)) (mgcons_len (mgcons_len mgnil_len))) (vs_aft (ws := [3, 4]) (vs_one (vs_asg (ve_op or_add od_add (ve_ix ix_seq od_ix (ve_name 2) (ve_op op_mod od_mod (ve_name 3) (ve_name 1)) (fun _ _ => rfl)) (ve_op or_mul od_mul (ve_name 4) (ve_op or_add od_add (ve_name 3) ve_int))) (vg_sub (i := 2) (ve_op op_mod od_mod (ve_name 3) (ve_name 1))))))))
      (vs_one (vs_retW (ve_name 2))))))
def P_w_folded (script : List Int) (size : Int) : Option (List Int) :=
  (some (cutL script none (some size))).bind fun cells1 =>
  (forP (P_w_folded_b2 size) (enumI 0 (cutL script (some size) (some 63))) cells1).bind fun s7 =>
  some s7
theorem q_w_folded (script : List Int) (size : Int) : fm_w_folded [.scr script, .val (eI size)] = (P_w_folded script size).map fun z => (.new (.lst (z.map eI)), [.no, .no]) := by
  unfold fm_w_folded m_w_folded P_w_folded
  refine c_fm (oR := fun z : (List Int) => .new (.lst (z.map eI))) (eR := fun z => [.no, .no, .no, .no, .no]) [.scr script, .val (eI size), .no, .no, .no] rfl rfl ?_ (fun _ => rfl) (fun _ => by walk_at "ik") (fun _ => rfl)
  refine c_seq ?_
  refine c_set ?_
  refine c_cb ?_
  refine c_cons ?_
  refine c_slScr rfl ?_
  refine c_noPart ?_
  refine c_part ?_
  refine c_nameV rfl ?_
  refine c_partK ?_
  refine c_nil ?_
  refine c_cbK _ rfl ?_
  refine c_pur x_listL ?_
  refine c_setNL (τ := Int) eI (cutL script none (some size)) (fun cells1 => [.scr script, .val (eI size), .own (.lst (cells1.map eI)), .no, .no]) (fun _ => rfl) fun cells1 => ?_
  refine c_seqN ?_
  refine c_seq ?_
  refine c_bef (e2 := [.scr script, .val (eI size), .own (.lst (cells1.map eI)), .no, .no]) rfl ?_
  refine c_for ?_
  refine c_enum ?_
  refine c_cons ?_
  refine c_frz ?_
  refine c_slScr rfl ?_
  refine c_part ?_
  refine c_nameV rfl ?_
  refine c_partK ?_
  refine c_part ?_
  refine c_c ?_
  refine c_partK ?_
  refine c_frzN ?_
  refine c_nil ?_
  refine c_enumK (l := (cutL script (some size) (some 63))) (ec := eI) rfl ?_
  refine c_loop (E := fun sE : (List Int) => [.scr script, .val (eI size), .own (.lst (sE.map eI)), .no, .no]) (forL_P (E := fun sE : (List Int) => [.scr script, .val (eI size), .own (.lst (sE.map eI)), .no, .no]) (ec := (eT2 eI eI)) (s_w_folded_b2 (.scr script) size) _ cells1) fun s7 => ?_
  refine c_seqN ?_
  refine c_ret ?_
  refine c_nameO rfl ?_
  refine c_retK (.new (.lst (s7.map eI))) rfl (e2 := [.no, .no, .no, .no, .no]) rfl ?_
  exact rfl
def m_units_text_b1 : MS := (mAft [4, 5] (mSeq (mIfS (mTest (mOp (gCmp fun i j => decide (j ≤ i)) (mName 3) (mName 5))) (mAft [] (mAugS 2 (mOp gAdd (mCB gStr (mCons (mOp gDiv (mName 3) (mName 5)) mNil)) (mName 4)))) (mAft [] mSkip))
    (mSet 3 (mFrz (mOp gMod (mName 3) (mName 5))))))
def P_units_text_b2  (xx : (Str × Int)) (ss : (Str × Int)) : Option (Str × Int) :=
  (if decide (xx.2 ≤ ss.2) = true then
    (pDiv ss.2 xx.2).bind fun t3 =>
    (pStr t3).bind fun t4 =>
    (pCatS t4 xx.1).bind fun t5 =>
    (pCatS ss.1 t5).bind fun found6 =>
    some found6
  else
    some ss.1).bind fun z2 =>
  (pMod ss.2 xx.2).bind fun t7 =>
  some (z2, t7)
theorem s_units_text_b2 (o0 : Slot) (o1 : Slot) (xx : (Str × Int)) (ss : (Str × Int)) : ((mgTup (mgCons (mgName 4) (mgCons (mgName 5) mgNil))) ((eT2 eS eI) xx) [o0, o1, .val (eS ss.1), .val (eI ss.2), .no, .no]).bind m_units_text_b1 = (P_units_text_b2  xx ss).map (outN (fun ss : (Str × Int) => [o0, o1, .val (eS ss.1), .val (eI ss.2), .no, .no])) := c_body (by
  unfold P_units_text_b2 m_units_text_b1
  refine c_gtup ?_
  refine c_gcons ?_
  refine c_gname (e2 := [o0, o1, .val (eS ss.1), .val (eI ss.2), .val (eS xx.1), .no]) rfl ?_
  refine c_gcons ?_
  refine c_gname (e2 := [o0, o1, .val (eS ss.1), .val (eI ss.2), .val (eS xx.1), .val (eI xx.2)]) rfl ?_
  refine c_gnil ?_
  refine c_aft ?_
  refine c_seq ?_
  refine c_ifS ?_
  refine c_test ?_
  refine c_op ?_
  refine c_nameV rfl ?_
  refine c_nameV rfl ?_
  refine c_opK rfl rfl ?_
  refine c_pur x_cmp ?_
  refine c_testK ?_
  refine c_ifJ (fun z2 : Str => (.nx, [o0, o1, .val (eS z2), .val (eI ss.2), .val (eS xx.1), .val (eI xx.2)])) ?_ ?_ fun z2 => ?_
  · refine c_aft ?_
    refine c_augS rfl ?_
    refine c_op ?_
    refine c_cb ?_
    refine c_cons ?_
    refine c_op ?_
    refine c_nameV rfl ?_
    refine c_nameV rfl ?_
    refine c_opK rfl rfl ?_
    refine c_cal x_div fun t3 => ?_
    refine c_nil ?_
    refine c_cbK _ rfl ?_
    refine c_cal x_str fun t4 => ?_
    refine c_nameV rfl ?_
    refine c_opK rfl rfl ?_
    refine c_cal x_catS fun t5 => ?_
    refine c_augSK (fun found6 => [o0, o1, .val (eS found6), .val (eI ss.2), .val (eS xx.1), .val (eI xx.2)]) (fun _ => rfl) fun found6 => ?_
    refine c_aftN (e2 := [o0, o1, .val (eS found6), .val (eI ss.2), .val (eS xx.1), .val (eI xx.2)]) rfl ?_
    exact rfl
  · refine c_aft ?_
    refine c_skip ?_
    refine c_aftN (e2 := [o0, o1, .val (eS ss.1), .val (eI ss.2), .val (eS xx.1), .val (eI xx.2)]) rfl ?_
    exact rfl
  refine c_seqN ?_
  refine c_set ?_
  refine c_frz ?_
  refine c_op ?_
  refine c_nameV rfl ?_
  refine c_nameV rfl ?_
  refine c_opK rfl rfl ?_
  refine c_cal x_mod fun t7 => ?_
  refine c_frzD ?_
  refine c_setD (e2 := [o0, o1, .val (eS z2), .val (eI t7), .val (eS xx.1), .val (eI xx.2)]) rfl ?_
  refine c_aftN (e2 := [o0, o1, .val (eS z2), .val (eI t7), .no, .no]) rfl ?_
  exact rfl)
def m_units_text : MS := (mSeq (mSet 2 (mFrz (mC (.str ""))))
    (mSeq (mSet 3 (mFrz (mName 0)))
    (mSeq (mBef [4, 5] (mFor (mItT (mName 1)) (mgTup (mgCons (mgName 4) (mgCons (mgName 5) mgNil))) m_units_text_b1))
    (mRetW [0, 1, 2, 3, 4, 5] (mIf (mTest (mOp (gEq false) (mName 2) (mC (.str "")))) (mFrz (mOp gAdd (mC (.str "0")) (mOp gIx (mOp gIx (mName 1) (mUn gNeg (mC (.int 1)))) (mC (.int 0))))) (mFrz (mName 2)))))))
def fm_units_text : FM := fmOf 2 6 m_units_text
theorem ok_units_text (T : Tx w K mg fd) : FnOk P w K mg base CX0 1 (He.ga K "units_text") (fd 1) ["number", "units"] (spF K fm_units_text) :=
  fn_ok T.F_units_text sc_units_text fun cdv A outer s H E hr => (show VSs _ _ m_units_text from (vs_cons (vs_set (i := 2) sc_units_text.nd (ve_frz ve_str))
      (vs_cons (vs_set (i := 3) sc_units_text.nd (ve_frz (ve_name 0)))
      (vs_cons (vs_bef (ws := [4, 5]) (vs_for PassesOwn.never (vi_tup (ve_name 1)) (vg_tup (vgs_cons (vg_name (j := 4) sc_units_text.nd) (vgs_cons (vg_name (j := 5) sc_units_text.nd) vgs_nil)) (mgcons_len (mgcons_len mgnil_len))) (vs_aft (ws := [4, 5]) (vs_cons (vs_if (vt_cmp op_ge (od_cmp (p := fun i j => decide (j ≤ i))) (ve_name 3) (ve_name 5) (nomark _)) (vs_aft (ws := []) (vs_one (vs_augS (i := 2) sc_units_text.nd (ve_op or_add od_add (ve_callTy call_str_int cd_str (by rfl) T.b_str (by decide +kernel) (va_cons (ve_op op_fdiv od_div (ve_name 3) (ve_name 5)) va_nil)) (ve_name 4))))) (vs_aft (ws := []) vs_nil))
      (vs_one (vs_set (i := 3) sc_units_text.nd (ve_frz (ve_op op_mod od_mod (ve_name 3) (ve_name 5)))))))))
      (vs_one (vs_retW (ve_if (vt_cmp (or_eq hr.units) od_eq (ve_name 2) ve_str (nomark _)) (ve_frz (ve_op or_add od_add ve_str (ve_ix ix_seq od_ix (ve_ix ix_seq od_ix (ve_name 1) (ve_un un_neg ud_neg ve_int) (fun _ _ => rfl)) ve_int (fun _ _ => rfl)))) (ve_frz (ve_name 2)))))))))
def P_units_text (number : Int) (units : (List (Str × Int))) : Option Str :=
  (some ("" : Str)).bind fun found1 =>
  (forP (P_units_text_b2 ) units (found1, number)).bind fun s8 =>
  if decide (s8.1 = ("" : Str)) = true then
    (pIx units (-1)).bind fun t9 =>
    (pCatS ("0" : Str) t9.1).bind fun t10 =>
    some t10
  else
    some s8.1
theorem q_units_text (number : Int) (units : (List (Str × Int))) : fm_units_text [.val (eI number), .val ((eV (eT2 eS eI)) units)] = (P_units_text number units).map fun z => (.dat (eS z), [.no, .no]) := by
  unfold fm_units_text m_units_text P_units_text
  refine c_fm (oR := fun z : Str => .dat (eS z)) (eR := fun z => [.no, .no, .no, .no, .no, .no]) [.val (eI number), .val ((eV (eT2 eS eI)) units), .no, .no, .no, .no] rfl rfl ?_ (fun _ => rfl) (fun _ => by walk_at "ik") (fun _ => rfl)
  refine c_seq ?_
  refine c_set ?_
  refine c_frz ?_
  refine c_c ?_
  refine c_frzD ?_
  refine c_setDL (τ := Str) eS ("" : Str) (fun found1 => [.val (eI number), .val ((eV (eT2 eS eI)) units), .val (eS found1), .no, .no, .no]) (fun _ => rfl) fun found1 => ?_
  refine c_seqN ?_
  refine c_seq ?_
  refine c_set ?_
  refine c_frz ?_
  refine c_nameV rfl ?_
  refine c_frzD ?_
  refine c_setD (e2 := [.val (eI number), .val ((eV (eT2 eS eI)) units), .val (eS found1), .val (eI number), .no, .no]) rfl ?_
  refine c_seqN ?_
  refine c_seq ?_
  refine c_bef (e2 := [.val (eI number), .val ((eV (eT2 eS eI)) units), .val (eS found1), .val (eI number), .no, .no]) rfl ?_
  refine c_for ?_
  refine c_itT ?_
  refine c_nameV rfl ?_
  refine c_frzD ?_
  refine c_itTK ?_
  refine c_loop (E := fun sE : (Str × Int) => [.val (eI number), .val ((eV (eT2 eS eI)) units), .val (eS sE.1), .val (eI sE.2), .no, .no]) (forL_P (E := fun sE : (Str × Int) => [.val (eI number), .val ((eV (eT2 eS eI)) units), .val (eS sE.1), .val (eI sE.2), .no, .no]) (ec := (eT2 eS eI)) (s_units_text_b2 (.val (eI number)) (.val ((eV (eT2 eS eI)) units))) _ (found1, number)) fun s8 => ?_
  refine c_seqN ?_
  refine c_ret ?_
  refine c_if ?_
  refine c_test ?_
  refine c_op ?_
  refine c_nameV rfl ?_
  refine c_c ?_
  refine c_opK rfl rfl ?_
  refine c_pur x_eqS0 ?_
  refine c_testK ?_
  refine c_ite ?_ ?_
  · refine c_frz ?_
    refine c_op ?_
    refine c_c ?_
    refine c_op ?_
    refine c_op ?_
    refine c_nameV rfl ?_
    refine c_un ?_
    refine c_c ?_
    refine c_unK rfl ?_
    refine c_pur x_neg ?_
    refine c_opK rfl rfl ?_
    refine c_cal (x_ixV (e := (eT2 eS eI)) (l := units)) fun t9 => ?_
    refine c_c ?_
    refine c_opK rfl rfl ?_
    refine c_pur (x_ixT rfl) ?_
    refine c_opK rfl rfl ?_
    refine c_cal x_catS fun t10 => ?_
    refine c_frzD ?_
    refine c_retK (.dat (eS t10)) rfl (e2 := [.no, .no, .no, .no, .no, .no]) rfl ?_
    exact rfl
  · refine c_frz ?_
    refine c_nameV rfl ?_
    refine c_frzD ?_
    refine c_retK (.dat (eS s8.1)) rfl (e2 := [.no, .no, .no, .no, .no, .no]) rfl ?_
    exact rfl
def m_weight_text : MS := (mRetW [0] (mCallF fm_units_text none (mCons (mName 0) (mCons (mC c_WEIGHT_UNITS) mNil))))
def fm_weight_text : FM := fmOf 1 1 m_weight_text
theorem ok_weight_text (T : Tx w K mg fd) : FnOk P w K mg base CX0 2 (He.ga K "weight_text") (fd 2) ["pounds"] (spF K fm_weight_text) :=
  fn_ok T.F_weight_text sc_weight_text fun cdv A outer s H E hr => (show VSs _ _ m_weight_text from (vs_one (vs_retW (ve_callF none (FnOk.mono (ok_units_text T) (by decide)) hr T.g_units_text T.F_units_text.kp (bi_units_text T) (va_cons (ve_name 0) (va_cons (ve_c_WEIGHT_UNITS T) va_nil))))))
def P_weight_text (pounds : Int) : Option Str :=
  (P_units_text pounds v_WEIGHT_UNITS).bind fun r1 =>
  some r1
theorem q_weight_text (pounds : Int) : fm_weight_text [.val (eI pounds)] = (P_weight_text pounds).map fun z => (.dat (eS z), [.no]) := by
  unfold fm_weight_text m_weight_text P_weight_text
  refine c_fm (oR := fun z : Str => .dat (eS z)) (eR := fun z => [.no]) [.val (eI pounds)] rfl rfl ?_ (fun _ => rfl) (fun _ => by walk_at "ik") (fun _ => rfl)
  refine c_ret ?_
  refine c_callF ?_
  refine c_cons ?_
  refine c_nameV rfl ?_
  refine c_cons ?_
  refine c_c ?_
  refine c_nil ?_
  refine c_callK (bk := fun r1 => [.val (eI pounds)]) rfl rfl (q_units_text pounds v_WEIGHT_UNITS) (fun _ => by walk_at "fl") (fun _ => rfl) fun r1 => ?_
  refine c_retK (.dat (eS r1)) rfl (e2 := [.no]) rfl ?_
  exact rfl
def m_length_text : MS := (mRetW [0] (mCallF fm_units_text none (mCons (mName 0) (mCons (mC c_LENGTH_UNITS) mNil))))
def fm_length_text : FM := fmOf 1 1 m_length_text
theorem ok_length_text (T : Tx w K mg fd) : FnOk P w K mg base CX0 2 (He.ga K "length_text") (fd 3) ["rods"] (spF K fm_length_text) :=
  fn_ok T.F_length_text sc_length_text fun cdv A outer s H E hr => (show VSs _ _ m_length_text from (vs_one (vs_retW (ve_callF none (FnOk.mono (ok_units_text T) (by decide)) hr T.g_units_text T.F_units_text.kp (bi_units_text T) (va_cons (ve_name 0) (va_cons (ve_c_LENGTH_UNITS T) va_nil))))))
def P_length_text (rods : Int) : Option Str :=
  (P_units_text rods v_LENGTH_UNITS).bind fun r1 =>
  some r1
theorem q_length_text (rods : Int) : fm_length_text [.val (eI rods)] = (P_length_text rods).map fun z => (.dat (eS z), [.no]) := by
  unfold fm_length_text m_length_text P_length_text
  refine c_fm (oR := fun z : Str => .dat (eS z)) (eR := fun z => [.no]) [.val (eI rods)] rfl rfl ?_ (fun _ => rfl) (fun _ => by walk_at "ik") (fun _ => rfl)
  refine c_ret ?_
  refine c_callF ?_
  refine c_cons ?_
  refine c_nameV rfl ?_
  refine c_cons ?_
  refine c_c ?_
  refine c_nil ?_
  refine c_callK (bk := fun r1 => [.val (eI rods)]) rfl rfl (q_units_text rods v_LENGTH_UNITS) (fun _ => by walk_at "fl") (fun _ => rfl) fun r1 => ?_
  refine c_retK (.dat (eS r1)) rfl (e2 := [.no]) rfl ?_
  exact rfl
def m_plain_number_e1 : ME := (mOp (gInS false) (mName 1) (mC c_FIGURES))
def P_plain_number_l2  (y2 : Str) : Option Bool :=
  (pInS false y2 ("0123456789" : Str)).bind fun t3 =>
  some t3
theorem s_plain_number_l2 (o0 : Slot) (y2 : Str) : lcStep (mgName 1) mYes m_plain_number_e1 [1] (eS y2) [o0, .no] = (P_plain_number_l2  y2).map fun z => (some (eB z), [o0, .no]) := c_stepM (α := Unit) (by
  unfold P_plain_number_l2
  refine c_gname (e2 := [o0, .val (eS y2)]) rfl ?_
  refine c_yes ?_
  refine c_iteT ?_
  refine c_bb ?_
  refine c_op ?_
  refine c_nameV rfl ?_
  refine c_c ?_
  refine c_opK rfl rfl ?_
  refine c_cal x_inS fun t3 => ?_
  refine c_frzD ?_
  refine c_elt (e1 := [o0, .no]) rfl ?_
  exact rfl)
def m_plain_number : MS := (mSeq (mIfS (mOr (mNot (mTest (mChain (gCmp fun i j => decide (i ≤ j)) (gCmp fun i j => decide (i ≤ j)) (mC (.int 1)) (mCB gLen (mCons (mName 0) mNil)) (mC c_MOST_FIGURES)))) (mNot (mTest (mCB gAll (mCons (mLc (mItS (mName 0)) (mgName 1) mYes m_plain_number_e1 [1]) mNil))))) (mRetW [0, 1] (mC .none)) mSkip)
    (mSeq (mIfS (mAnd (mTest (mOp (gEq false) (mOp gIx (mName 0) (mC (.int 0))) (mC (.str "0")))) (mTest (mOp (gEq true) (mName 0) (mC (.str "0"))))) (mRetW [0, 1] (mC .none)) mSkip)
    (mRetW [0, 1] (mCB gIntS (mCons (mName 0) mNil)))))
def fm_plain_number : FM := fmOf 1 2 m_plain_number
theorem ok_plain_number (T : Tx w K mg fd) : FnOk P w K mg base CX0 1 (He.ga K "plain_number") (fd 4) ["text"] (spF K fm_plain_number) :=
  fn_ok T.F_plain_number sc_plain_number fun cdv A outer s H E hr => (show VSs _ _ m_plain_number from (vs_cons (vs_if (vt_w (vw_or (vt_not (vt_chain op_le (od_cmp (p := fun i j => decide (i ≤ j))) op_le (od_cmp (p := fun i j => decide (i ≤ j))) ve_int (ve_callB call_len cd_len (by rfl) T.b_len PySem.boot_len (va_cons (ve_name 0) va_nil)) (ve_c_MOST_FIGURES T))) (vw_or1 (vt_not (vt_val (ve_callB (cr_all rfl) cd_all (by rfl) T.b_all (by decide +kernel) (va_cons (ve_lc (own := [("sign", 1)]) sc_plain_number.nd (vi_str (ve_name 0)) (blkOk_by (own := [("sign", 1)]) (N := ["text", "sign"]) (sc := defScope s_plain_number) (by decide +kernel)) (fun _ _ _ _ _ => (vg_name (j := 1) sc_plain_number.nd)) (fun _ _ _ _ _ => vts_nil) (fun _ _ _ _ _ => (ve_cmp op_inS od_ins (ve_name 1) (ve_c_FIGURES T) (by rfl))) (by decide)) va_nil))))))) (vs_one (vs_retW ve_non)) vs_nil)
      (vs_cons (vs_if (vt_w (vw_and (vt_cmp (or_eq hr.units) od_eq (ve_ix ix_seq od_ix (ve_name 0) ve_int (fun _ _ => rfl)) ve_str (nomark _)) (vw_and1 (vt_cmp (or_ne hr.units) od_ne (ve_name 0) ve_str (nomark _))))) (vs_one (vs_retW ve_non)) vs_nil)
      (vs_one (vs_retW (ve_callTy call_int_str cd_intS (by rfl) T.b_int (by decide +kernel) (va_cons (ve_name 0) va_nil)))))))
def P_plain_number (text : Str) : Option (Option Int) :=
  (pLenS text).bind fun t1 =>
  (if (!(decide (1 ≤ t1) && decide (t1 ≤ (9)))) = true then
    some true
  else
    (gd ((signs text).length ≤ 100000)).bind fun _ =>
    (mapO (P_plain_number_l2 ) (signs text)).bind fun l4 =>
    some (!(l4.all id))).bind fun z5 =>
  if z5 = true then
    some (none : (Option Int))
  else
    (pIxS text 0).bind fun t6 =>
    (if decide (t6 = ("0" : Str)) = true then
      some (!decide (text = ("0" : Str)))
    else
      some false).bind fun z7 =>
    if z7 = true then
      some (none : (Option Int))
    else
      (pIntS text).bind fun t8 =>
      some (some t8)
theorem q_plain_number (text : Str) : fm_plain_number [.val (eS text)] = (P_plain_number text).map fun z => (.dat ((eO eI) z), [.no]) := by
  unfold fm_plain_number m_plain_number P_plain_number
  refine c_fm (oR := fun z : (Option Int) => .dat ((eO eI) z)) (eR := fun z => [.no, .no]) [.val (eS text), .no] rfl rfl ?_ (fun _ => rfl) (fun _ => by walk_at "ik") (fun _ => rfl)
  refine c_seq ?_
  refine c_ifS ?_
  refine c_orB ?_
  refine c_notB ?_
  refine c_test ?_
  refine c_chain ?_
  refine c_c ?_
  refine c_cb ?_
  refine c_cons ?_
  refine c_nameV rfl ?_
  refine c_nil ?_
  refine c_cbK _ rfl ?_
  refine c_cal x_lenS fun t1 => ?_
  refine c_opK rfl rfl ?_
  refine c_pur x_cmp ?_
  refine c_boolK ?_
  refine c_chainT (c_tot (by refine c_c ?_; exact rfl)) rfl x_cmp ?_
  refine c_testK ?_
  refine c_ifJ (fun z5 => (z5, [.val (eS text), .no])) ?_ ?_ fun z5 => ?_
  · exact rfl
  · refine c_notB ?_
    refine c_test ?_
    refine c_cb ?_
    refine c_cons ?_
    refine c_lc ?_
    refine c_itS ?_
    refine c_nameV rfl ?_
    refine c_itSK ?_
    refine c_lcK (xs := (signs text)) (ec := eS) (e1 := [.val (eS text), .no]) (by exact rfl) ?_
    refine c_cal2 (lc_mapO (s_plain_number_l2 (.val (eS text))) _) fun l4 => ?_
    refine c_nil ?_
    refine c_cbK _ rfl ?_
    refine c_pur (x_all (l := l4)) ?_
    refine c_testK ?_
    exact rfl
  refine c_ite ?_ ?_
  · refine c_ret ?_
    refine c_c ?_
    refine c_retK (.dat ((eO eI) (none : (Option Int)))) rfl (e2 := [.no, .no]) rfl ?_
    refine c_seqR ?_
    exact rfl
  · refine c_skip ?_
    refine c_seqN ?_
    refine c_seq ?_
    refine c_ifS ?_
    refine c_andB ?_
    refine c_test ?_
    refine c_op ?_
    refine c_op ?_
    refine c_nameV rfl ?_
    refine c_c ?_
    refine c_opK rfl rfl ?_
    refine c_cal x_ixS fun t6 => ?_
    refine c_c ?_
    refine c_opK rfl rfl ?_
    refine c_pur x_eqS0 ?_
    refine c_testK ?_
    refine c_ifJ (fun z7 => (z7, [.val (eS text), .no])) ?_ ?_ fun z7 => ?_
    · refine c_test ?_
      refine c_op ?_
      refine c_nameV rfl ?_
      refine c_c ?_
      refine c_opK rfl rfl ?_
      refine c_pur x_eqS1 ?_
      refine c_testK ?_
      exact rfl
    · exact rfl
    refine c_ite ?_ ?_
    · refine c_ret ?_
      refine c_c ?_
      refine c_retK (.dat ((eO eI) (none : (Option Int)))) rfl (e2 := [.no, .no]) rfl ?_
      refine c_seqR ?_
      exact rfl
    · refine c_skip ?_
      refine c_seqN ?_
      refine c_ret ?_
      refine c_cb ?_
      refine c_cons ?_
      refine c_nameV rfl ?_
      refine c_nil ?_
      refine c_cbK _ rfl ?_
      refine c_cal x_intS fun t8 => ?_
      refine c_retK (.dat ((eO eI) (some t8))) rfl (e2 := [.no, .no]) rfl ?_
      exact rfl
def m_units_in_b1 : MS := (mAft [4, 5, 6, 7, 8, 9] (mSeq (mAsg (mBM "str" gPartition (mName 3) (mCons (mName 4) mNil)) (mgTup (mgCons (mgName 6) (mgCons (mgName 7) (mgCons (mgName 8) mgNil)))))
    (mIfS (mTest (mOp (gEq false) (mName 7) (mName 4))) (mSeq (mSet 9 (mFrz (mCallF fm_plain_number none (mCons (mName 6) mNil))))
    (mSeq (mIfS (mTest (mOp (gIsN false) (mName 9) (mC .none))) (mRetW [0, 1, 2, 3, 4, 5, 6, 7, 8, 9] (mC .none)) mSkip)
    (mSeq (mAugI 2 (fun i j => i + j) (mOp gMul (mName 9) (mName 5)))
    (mSet 3 (mFrz (mName 8)))))) mSkip)))
def P_units_in_b2  (xx : (Str × Int)) (ss : (Int × Str)) : Option (Fw (Option Int) (Int × Str)) :=
  (pPartition ss.2 xx.1).bind fun t1 =>
  if decide (t1.2.1 = xx.1) = true then
    (P_plain_number t1.1).bind fun r2 =>
    Option.elim r2
      (some (.rt (none : (Option Int))))
      fun v3 =>
      (pMul v3 xx.2).bind fun t5 =>
      (some (ss.1 + t5)).bind fun found6 =>
      some (.nx (found6, t1.2.2))
  else
    some (.nx (ss.1, ss.2))
theorem s_units_in_b2 (o0 : Slot) (o1 : Slot) (xx : (Str × Int)) (ss : (Int × Str)) : ((mgTup (mgCons (mgName 4) (mgCons (mgName 5) mgNil))) ((eT2 eS eI) xx) [o0, o1, .val (eI ss.1), .val (eS ss.2), .no, .no, .no, .no, .no, .no]).bind m_units_in_b1 = (P_units_in_b2  xx ss).map (outB (fun z : (Option Int) => .dat ((eO eI) z)) (fun z => [.no, .no, .no, .no, .no, .no, .no, .no, .no, .no]) (fun ss : (Int × Str) => [o0, o1, .val (eI ss.1), .val (eS ss.2), .no, .no, .no, .no, .no, .no])) := c_body (by
  unfold P_units_in_b2 m_units_in_b1
  refine c_gtup ?_
  refine c_gcons ?_
  refine c_gname (e2 := [o0, o1, .val (eI ss.1), .val (eS ss.2), .val (eS xx.1), .no, .no, .no, .no, .no]) rfl ?_
  refine c_gcons ?_
  refine c_gname (e2 := [o0, o1, .val (eI ss.1), .val (eS ss.2), .val (eS xx.1), .val (eI xx.2), .no, .no, .no, .no]) rfl ?_
  refine c_gnil ?_
  refine c_aft ?_
  refine c_seq ?_
  refine c_asg ?_
  refine c_bm ?_
  refine c_nameV rfl ?_
  refine c_bmK _ rfl rfl ?_
  refine c_cons ?_
  refine c_nameV rfl ?_
  refine c_nil ?_
  refine c_bmK2 _ _ rfl rfl ?_
  refine c_cal x_partition fun t1 => ?_
  refine c_frzD ?_
  refine c_asgK ?_
  refine c_gtup ?_
  refine c_gcons ?_
  refine c_gname (e2 := [o0, o1, .val (eI ss.1), .val (eS ss.2), .val (eS xx.1), .val (eI xx.2), .val (eS t1.1), .no, .no, .no]) rfl ?_
  refine c_gcons ?_
  refine c_gname (e2 := [o0, o1, .val (eI ss.1), .val (eS ss.2), .val (eS xx.1), .val (eI xx.2), .val (eS t1.1), .val (eS t1.2.1), .no, .no]) rfl ?_
  refine c_gcons ?_
  refine c_gname (e2 := [o0, o1, .val (eI ss.1), .val (eS ss.2), .val (eS xx.1), .val (eI xx.2), .val (eS t1.1), .val (eS t1.2.1), .val (eS t1.2.2), .no]) rfl ?_
  refine c_gnil ?_
  refine c_seqN ?_
  refine c_ifS ?_
  refine c_test ?_
  refine c_op ?_
  refine c_nameV rfl ?_
  refine c_nameV rfl ?_
  refine c_opK rfl rfl ?_
  refine c_pur x_eqS0 ?_
  refine c_testK ?_
  refine c_ite ?_ ?_
  · refine c_seq ?_
    refine c_set ?_
    refine c_frz ?_
    refine c_callF ?_
    refine c_cons ?_
    refine c_nameV rfl ?_
    refine c_nil ?_
    refine c_callK (bk := fun r2 => [o0, o1, .val (eI ss.1), .val (eS ss.2), .val (eS xx.1), .val (eI xx.2), .val (eS t1.1), .val (eS t1.2.1), .val (eS t1.2.2), .no]) rfl rfl (q_plain_number t1.1) (fun _ => by walk_at "fl") (fun _ => rfl) fun r2 => ?_
    refine c_frzD ?_
    refine c_setD (e2 := [o0, o1, .val (eI ss.1), .val (eS ss.2), .val (eS xx.1), .val (eI xx.2), .val (eS t1.1), .val (eS t1.2.1), .val (eS t1.2.2), .val ((eO eI) r2)]) rfl ?_
    refine c_seqN ?_
    refine c_seq ?_
    refine c_ifS ?_
    refine c_test ?_
    refine c_op ?_
    refine c_nameV rfl ?_
    refine c_c ?_
    refine c_opK rfl rfl ?_
    refine c_pur (x_isNO0 (h := fun _ => rfl)) ?_
    refine c_testK ?_
    refine c_isN (fun h4 => ?_) (fun v3 h4 => ?_)
    · rw [h4]
      refine c_ret ?_
      refine c_c ?_
      refine c_retK (.dat ((eO eI) (none : (Option Int)))) rfl (e2 := [.no, .no, .no, .no, .no, .no, .no, .no, .no, .no]) rfl ?_
      refine c_seqR ?_
      refine c_aftR ?_
      exact rfl
    · rw [h4]
      refine c_skip ?_
      refine c_seqN ?_
      refine c_seq ?_
      refine c_aug rfl ?_
      refine c_op ?_
      refine c_nameV rfl ?_
      refine c_nameV rfl ?_
      refine c_opK rfl rfl ?_
      refine c_cal x_mul fun t5 => ?_
      refine c_augL (f := fun i j => i + j) (x := ss.1) (y := t5) (fun found6 => [o0, o1, .val (eI found6), .val (eS ss.2), .val (eS xx.1), .val (eI xx.2), .val (eS t1.1), .val (eS t1.2.1), .val (eS t1.2.2), .val (eI v3)]) (fun _ => rfl) fun found6 => ?_
      refine c_seqN ?_
      refine c_set ?_
      refine c_frz ?_
      refine c_nameV rfl ?_
      refine c_frzD ?_
      refine c_setD (e2 := [o0, o1, .val (eI found6), .val (eS t1.2.2), .val (eS xx.1), .val (eI xx.2), .val (eS t1.1), .val (eS t1.2.1), .val (eS t1.2.2), .val (eI v3)]) rfl ?_
      refine c_aftN (e2 := [o0, o1, .val (eI found6), .val (eS t1.2.2), .no, .no, .no, .no, .no, .no]) rfl ?_
      exact rfl
  · refine c_skip ?_
    refine c_aftN (e2 := [o0, o1, .val (eI ss.1), .val (eS ss.2), .no, .no, .no, .no, .no, .no]) rfl ?_
    exact rfl)
def m_units_in : MS := (mSeq (mSet 2 (mFrz (mC (.int 0))))
    (mSeq (mSet 3 (mFrz (mName 0)))
    (mSeq (mBef [4, 5, 6, 7, 8, 9] (mFor (mItT (mName 1)) (mgTup (mgCons (mgName 4) (mgCons (mgName 5) mgNil))) m_units_in_b1))
    (mRetW [0, 1, 2, 3, 4, 5, 6, 7, 8, 9] (mIf (mAnd (mTest (mOp (gEq false) (mName 3) (mC (.str "")))) (mTest (mOp (gEq false) (mCallF fm_units_text none (mCons (mName 2) (mCons (mName 1) mNil))) (mName 0)))) (mFrz (mName 2)) (mFrz (mC .none)))))))
def fm_units_in : FM := fmOf 2 10 m_units_in
theorem ok_units_in (T : Tx w K mg fd) : FnOk P w K mg base CX0 2 (He.ga K "units_in") (fd 5) ["text", "units"] (spF K fm_units_in) :=
  fn_ok T.F_units_in sc_units_in fun cdv A outer s H E hr => (show VSs _ _ m_units_in from (vs_cons (vs_set (i := 2) sc_units_in.nd (ve_frz ve_int))
      (vs_cons (vs_set (i := 3) sc_units_in.nd (ve_frz (ve_name 0)))
      (vs_cons (vs_bef (ws := [4, 5, 6, 7, 8, 9]) (vs_for PassesOwn.never (vi_tup (ve_name 1)) (vg_tup (vgs_cons (vg_name (j := 4) sc_units_in.nd) (vgs_cons (vg_name (j := 5) sc_units_in.nd) vgs_nil)) (mgcons_len (mgcons_len mgnil_len))) (vs_aft (ws := [4, 5, 6, 7, 8, 9]) (vs_cons (vs_asg (ve_bm PySem.F.plainAttrs_str PySem.F.slot_str_partition PySem.F.type_str_partition mt_partition mtd_partition (ve_name 3) (va_cons (ve_name 4) va_nil)) (vg_tup (vgs_cons (vg_name (j := 6) sc_units_in.nd) (vgs_cons (vg_name (j := 7) sc_units_in.nd) (vgs_cons (vg_name (j := 8) sc_units_in.nd) vgs_nil))) (mgcons_len (mgcons_len (mgcons_len mgnil_len)))))
      (vs_one (vs_if (vt_cmp (or_eq hr.units) od_eq (ve_name 7) (ve_name 4) (nomark _)) (vs_cons (vs_set (i := 9) sc_units_in.nd (ve_frz (ve_callF none (FnOk.mono (ok_plain_number T) (by decide)) hr T.g_plain_number T.F_plain_number.kp (bi_plain_number T) (va_cons (ve_name 6) va_nil))))
      (vs_cons (vs_if (vt_cmp op_isN od_isN (ve_name 9) ve_non (nomark _)) (vs_one (vs_retW ve_non)) vs_nil)
      (vs_cons (vs_augI (i := 2) ip_add sc_units_in.nd (ve_op or_mul od_mul (ve_name 9) (ve_name 5)))
      (vs_one (vs_set (i := 3) sc_units_in.nd (ve_frz (ve_name 8))))))) vs_nil))))))
      (vs_one (vs_retW (ve_if (vt_w (vw_and (vt_cmp (or_eq hr.units) od_eq (ve_name 3) ve_str (nomark _)) (vw_and1 (vt_cmp (or_eq hr.units) od_eq (ve_callF none (FnOk.mono (ok_units_text T) (by decide)) hr T.g_units_text T.F_units_text.kp (bi_units_text T) (va_cons (ve_name 2) (va_cons (ve_name 1) va_nil))) (ve_name 0) (nomark _))))) (ve_frz (ve_name 2)) (ve_frz ve_non))))))))
def P_units_in (text : Str) (units : (List (Str × Int))) : Option (Option Int) :=
  (forR (P_units_in_b2 ) units (0, text)).bind fun w8 => w8.on (fun z => some z) fun s7 =>
    (if decide (s7.2 = ("" : Str)) = true then
      (P_units_text s7.1 units).bind fun r9 =>
      some (decide (r9 = text))
    else
      some false).bind fun z10 =>
    if z10 = true then
      some (some s7.1)
    else
      some (none : (Option Int))
theorem q_units_in (text : Str) (units : (List (Str × Int))) : fm_units_in [.val (eS text), .val ((eV (eT2 eS eI)) units)] = (P_units_in text units).map fun z => (.dat ((eO eI) z), [.no, .no]) := by
  unfold fm_units_in m_units_in P_units_in
  refine c_fm (oR := fun z : (Option Int) => .dat ((eO eI) z)) (eR := fun z => [.no, .no, .no, .no, .no, .no, .no, .no, .no, .no]) [.val (eS text), .val ((eV (eT2 eS eI)) units), .no, .no, .no, .no, .no, .no, .no, .no] rfl rfl ?_ (fun _ => rfl) (fun _ => by walk_at "ik") (fun _ => rfl)
  refine c_seq ?_
  refine c_set ?_
  refine c_frz ?_
  refine c_c ?_
  refine c_frzD ?_
  refine c_setD (e2 := [.val (eS text), .val ((eV (eT2 eS eI)) units), .val (eI 0), .no, .no, .no, .no, .no, .no, .no]) rfl ?_
  refine c_seqN ?_
  refine c_seq ?_
  refine c_set ?_
  refine c_frz ?_
  refine c_nameV rfl ?_
  refine c_frzD ?_
  refine c_setD (e2 := [.val (eS text), .val ((eV (eT2 eS eI)) units), .val (eI 0), .val (eS text), .no, .no, .no, .no, .no, .no]) rfl ?_
  refine c_seqN ?_
  refine c_seq ?_
  refine c_bef (e2 := [.val (eS text), .val ((eV (eT2 eS eI)) units), .val (eI 0), .val (eS text), .no, .no, .no, .no, .no, .no]) rfl ?_
  refine c_for ?_
  refine c_itT ?_
  refine c_nameV rfl ?_
  refine c_frzD ?_
  refine c_itTK ?_
  refine c_loopR (E := fun sE : (Int × Str) => [.val (eS text), .val ((eV (eT2 eS eI)) units), .val (eI sE.1), .val (eS sE.2), .no, .no, .no, .no, .no, .no]) (oR := fun z : (Option Int) => .dat ((eO eI) z)) (eR := fun z => [.no, .no, .no, .no, .no, .no, .no, .no, .no, .no]) (forL_R (E := fun sE : (Int × Str) => [.val (eS text), .val ((eV (eT2 eS eI)) units), .val (eI sE.1), .val (eS sE.2), .no, .no, .no, .no, .no, .no]) (oR := fun z : (Option Int) => .dat ((eO eI) z)) (eR := fun z => [.no, .no, .no, .no, .no, .no, .no, .no, .no, .no]) (ec := (eT2 eS eI)) (s_units_in_b2 (.val (eS text)) (.val ((eV (eT2 eS eI)) units))) _ (0, text)) (fun z => ?_) (fun s7 => ?_)
  · refine c_seqR ?_
    exact rfl
  · refine c_seqN ?_
    refine c_ret ?_
    refine c_if ?_
    refine c_andB ?_
    refine c_test ?_
    refine c_op ?_
    refine c_nameV rfl ?_
    refine c_c ?_
    refine c_opK rfl rfl ?_
    refine c_pur x_eqS0 ?_
    refine c_testK ?_
    refine c_ifJ (fun z10 => (z10, [.val (eS text), .val ((eV (eT2 eS eI)) units), .val (eI s7.1), .val (eS s7.2), .no, .no, .no, .no, .no, .no])) ?_ ?_ fun z10 => ?_
    · refine c_test ?_
      refine c_op ?_
      refine c_callF ?_
      refine c_cons ?_
      refine c_nameV rfl ?_
      refine c_cons ?_
      refine c_nameV rfl ?_
      refine c_nil ?_
      refine c_callK (bk := fun r9 => [.val (eS text), .val ((eV (eT2 eS eI)) units), .val (eI s7.1), .val (eS s7.2), .no, .no, .no, .no, .no, .no]) rfl rfl (q_units_text s7.1 units) (fun _ => by walk_at "fl") (fun _ => rfl) fun r9 => ?_
      refine c_nameV rfl ?_
      refine c_opK rfl rfl ?_
      refine c_pur x_eqS0 ?_
      refine c_testK ?_
      exact rfl
    · exact rfl
    refine c_ite ?_ ?_
    · refine c_frz ?_
      refine c_nameV rfl ?_
      refine c_frzD ?_
      refine c_retK (.dat ((eO eI) (some s7.1))) rfl (e2 := [.no, .no, .no, .no, .no, .no, .no, .no, .no, .no]) rfl ?_
      exact rfl
    · refine c_frz ?_
      refine c_c ?_
      refine c_frzD ?_
      refine c_retK (.dat ((eO eI) (none : (Option Int)))) rfl (e2 := [.no, .no, .no, .no, .no, .no, .no, .no, .no, .no]) rfl ?_
      exact rfl
def m_weight_in : MS := (mRetW [0] (mCallF fm_units_in none (mCons (mName 0) (mCons (mC c_WEIGHT_UNITS) mNil))))
def fm_weight_in : FM := fmOf 1 1 m_weight_in
theorem ok_weight_in (T : Tx w K mg fd) : FnOk P w K mg base CX0 3 (He.ga K "weight_in") (fd 6) ["text"] (spF K fm_weight_in) :=
  fn_ok T.F_weight_in sc_weight_in fun cdv A outer s H E hr => (show VSs _ _ m_weight_in from (vs_one (vs_retW (ve_callF none (FnOk.mono (ok_units_in T) (by decide)) hr T.g_units_in T.F_units_in.kp (bi_units_in T) (va_cons (ve_name 0) (va_cons (ve_c_WEIGHT_UNITS T) va_nil))))))
def P_weight_in (text : Str) : Option (Option Int) :=
  (P_units_in text v_WEIGHT_UNITS).bind fun r1 =>
  some r1
theorem q_weight_in (text : Str) : fm_weight_in [.val (eS text)] = (P_weight_in text).map fun z => (.dat ((eO eI) z), [.no]) := by
  unfold fm_weight_in m_weight_in P_weight_in
  refine c_fm (oR := fun z : (Option Int) => .dat ((eO eI) z)) (eR := fun z => [.no]) [.val (eS text)] rfl rfl ?_ (fun _ => rfl) (fun _ => by walk_at "ik") (fun _ => rfl)
  refine c_ret ?_
  refine c_callF ?_
  refine c_cons ?_
  refine c_nameV rfl ?_
  refine c_cons ?_
  refine c_c ?_
  refine c_nil ?_
  refine c_callK (bk := fun r1 => [.val (eS text)]) rfl rfl (q_units_in text v_WEIGHT_UNITS) (fun _ => by walk_at "fl") (fun _ => rfl) fun r1 => ?_
  refine c_retK (.dat ((eO eI) r1)) rfl (e2 := [.no]) rfl ?_
  exact rfl
def m_length_in : MS := (mRetW [0] (mCallF fm_units_in none (mCons (mName 0) (mCons (mC c_LENGTH_UNITS) mNil))))
def fm_length_in : FM := fmOf 1 1 m_length_in
theorem ok_length_in (T : Tx w K mg fd) : FnOk P w K mg base CX0 3 (He.ga K "length_in") (fd 7) ["text"] (spF K fm_length_in) :=
  fn_ok T.F_length_in sc_length_in fun cdv A outer s H E hr => (show VSs _ _ m_length_in from (vs_one (vs_retW (ve_callF none (FnOk.mono (ok_units_in T) (by decide)) hr T.g_units_in T.F_units_in.kp (bi_units_in T) (va_cons (ve_name 0) (va_cons (ve_c_LENGTH_UNITS T) va_nil))))))
def P_length_in (text : Str) : Option (Option Int) :=
  (P_units_in text v_LENGTH_UNITS).bind fun r1 =>
  some r1
theorem q_length_in (text : Str) : fm_length_in [.val (eS text)] = (P_length_in text).map fun z => (.dat ((eO eI) z), [.no]) := by
  unfold fm_length_in m_length_in P_length_in
  refine c_fm (oR := fun z : (Option Int) => .dat ((eO eI) z)) (eR := fun z => [.no]) [.val (eS text)] rfl rfl ?_ (fun _ => rfl) (fun _ => by walk_at "ik") (fun _ => rfl)
  refine c_ret ?_
  refine c_callF ?_
  refine c_cons ?_
  refine c_nameV rfl ?_
  refine c_cons ?_
  refine c_c ?_
  refine c_nil ?_
  refine c_callK (bk := fun r1 => [.val (eS text)]) rfl rfl (q_units_in text v_LENGTH_UNITS) (fun _ => by walk_at "fl") (fun _ => rfl) fun r1 => ?_
  refine c_retK (.dat ((eO eI) r1)) rfl (e2 := [.no]) rfl ?_
  exact rfl
def m_w_box : MS := (mSeq (mSet 2 (mFrz (mIf (mTest (mOp (gCmp fun i j => decide (i < j)) (mName 1) (mCB gLen (mCons (mName 0) mNil)))) (mOp gIx (mName 0) (mName 1)) (mC (.int 0)))))
    (mRetW [0, 1, 2] (mLst (mCons (mFrz (mOp gMul (mCB (gInt1 fun i => if i < 0 then -i else i) (mCons (mName 2) mNil)) (mCB gInt (mCons (mOp (gCmp fun i j => decide (j ≤ i)) (mCB (gInt1 fun i => if i < 0 then -i else i) (mCons (mName 2) mNil)) (mOp gPow (mC (.int 10)) (mC (.int 18)))) mNil)))) (mCons (mFrz (mOp gAdd (mOp gAdd (mOp gMul (mOp gMod (mName 2) (mC (.int 2147483629))) (mC (.int 48271))) (mOp gMul (mC (.int 15485863)) (mName 1))) (mC (.int 37)))) (mCons (mFrz (mC (.int 0))) mNil))))))
def fm_w_box : FM := fmOf 2 3 m_w_box
theorem ok_w_box (T : Tx w K mg fd) : FnOk P w K mg base CX0 1 (He.ga K "_law_box") (fd 8) ["_law_script", "_law_k"] (spF K fm_w_box) :=
  fn_ok T.F_w_box sc_w_box fun cdv A outer s H E hr => (show VSs _ _ m_w_box from (vs_cons (vs_set (i := 2) sc_w_box.nd (ve_frz (ve_if (vt_cmp op_lt (od_cmp (p := fun i j => decide (i < j))) (ve_name 1) (ve_callB call_len cd_len (by rfl) T.b_len PySem.boot_len (va_cons (ve_name 0) va_nil)) (nomark _)) (ve_ix ix_seq od_ix (ve_name 0) (ve_name 1) (fun _ _ => rfl)) ve_int)))
      (vs_one (vs_retW (ve_lst (va_cons (ve_frz (ve_op or_mul od_mul (ve_callB call_abs (cd_int1 (f := fun i => if i < 0 then -i else i)) (by rfl) T.b_abs (by decide +kernel) (va_cons (ve_name 2) va_nil)) (ve_callTy call_int1 cd_int (by rfl) T.b_int (by decide +kernel) (va_cons (ve_cmp op_ge (od_cmp (p := fun i j => decide (j ≤ i))) (ve_callB call_abs (cd_int1 (f := fun i => if i < 0 then -i else i)) (by rfl) T.b_abs (by decide +kernel) (va_cons (ve_name 2) va_nil)) (ve_op op_pow od_pow ve_int ve_int) (nomark _)) va_nil)))) (va_cons (ve_frz (ve_op or_add od_add (ve_op or_add od_add (ve_op or_mul od_mul (ve_op op_mod od_mod (ve_name 2) ve_int) ve_int) (ve_op or_mul od_mul ve_int (ve_name 1))) ve_int)) (va_cons (ve_frz ve_int) va_nil))))))))
def P_w_box (script : (List Int)) (k : Int) : Option (List Int) :=
  (if decide (k < (script.length : Int)) = true then
    (pIx script k).bind fun t1 =>
    some t1
  else
    some 0).bind fun z2 =>
  (pMul (absI z2) (if decide (1000000000000000000 ≤ (absI z2)) = true then 1 else 0)).bind fun t3 =>
  some [t3, ((((z2 % 2147483629) * 48271) + (15485863 * k)) + 37), 0]
theorem q_w_box (script : (List Int)) (k : Int) : fm_w_box [.val ((eL eI) script), .val (eI k)] = (P_w_box script k).map fun z => (.new (.lst (z.map eI)), [.no, .no]) := by
  unfold fm_w_box m_w_box P_w_box
  refine c_fm (oR := fun z : (List Int) => .new (.lst (z.map eI))) (eR := fun z => [.no, .no, .no]) [.val ((eL eI) script), .val (eI k), .no] rfl rfl ?_ (fun _ => rfl) (fun _ => by walk_at "ik") (fun _ => rfl)
  refine c_seq ?_
  refine c_set ?_
  refine c_frz ?_
  refine c_if ?_
  refine c_test ?_
  refine c_op ?_
  refine c_nameV rfl ?_
  refine c_cb ?_
  refine c_cons ?_
  refine c_nameV rfl ?_
  refine c_nil ?_
  refine c_cbK _ rfl ?_
  refine c_pur (x_lenL (e := eI) (l := script)) ?_
  refine c_opK rfl rfl ?_
  refine c_pur x_cmp ?_
  refine c_testK ?_
  refine c_ifJ (fun z2 => (.dat (eI z2), [.val ((eL eI) script), .val (eI k), .no])) ?_ ?_ fun z2 => ?_
  · refine c_op ?_
    refine c_nameV rfl ?_
    refine c_nameV rfl ?_
    refine c_opK rfl rfl ?_
    refine c_cal (x_ix (e := eI) (l := script)) fun t1 => ?_
    exact rfl
  · refine c_c ?_
    exact rfl
  refine c_frzD ?_
  refine c_setD (e2 := [.val ((eL eI) script), .val (eI k), .val (eI z2)]) rfl ?_
  refine c_seqN ?_
  refine c_ret ?_
  refine c_lst ?_
  refine c_cons ?_
  refine c_frz ?_
  refine c_op ?_
  refine c_cb ?_
  refine c_cons ?_
  refine c_nameV rfl ?_
  refine c_nil ?_
  refine c_cbK _ rfl ?_
  refine c_pur x_int1 ?_
  refine c_cb ?_
  refine c_cons ?_
  refine c_op ?_
  refine c_cb ?_
  refine c_cons ?_
  refine c_nameV rfl ?_
  refine c_nil ?_
  refine c_cbK _ rfl ?_
  refine c_pur x_int1 ?_
  refine c_op ?_
  refine c_c ?_
  refine c_c ?_
  refine c_opK rfl rfl ?_
  refine c_pur (v := .dat (.int 1000000000000000000)) rfl ?_
  refine c_opK rfl rfl ?_
  refine c_pur x_cmp ?_
  refine c_nil ?_
  refine c_cbK _ rfl ?_
  refine c_pur x_intB ?_
  refine c_opK rfl rfl ?_
  refine c_cal x_mul fun t3 => ?_
  refine c_frzD ?_
  refine c_cons ?_
  refine c_frz ?_
  refine c_op ?_
  refine c_op ?_
  refine c_op ?_
  refine c_op ?_
  refine c_nameV rfl ?_
  refine c_c ?_
  refine c_opK rfl rfl ?_
  refine c_pur (x_modC (by decide)) ?_
  refine c_c ?_
  refine c_opK rfl rfl ?_
  refine c_pur (x_mulR (by decide)) ?_
  refine c_op ?_
  refine c_c ?_
  refine c_nameV rfl ?_
  refine c_opK rfl rfl ?_
  refine c_pur (x_mulL (by decide)) ?_
  refine c_opK rfl rfl ?_
  refine c_pur x_add ?_
  refine c_c ?_
  refine c_opK rfl rfl ?_
  refine c_pur x_add ?_
  refine c_frzD ?_
  refine c_cons ?_
  refine c_frz ?_
  refine c_c ?_
  refine c_frzD ?_
  refine c_nil ?_
  refine c_lstK ([t3, ((((z2 % 2147483629) * 48271) + (15485863 * k)) + 37), 0].map eI) rfl (Nat.le_of_ble_eq_true rfl) ?_
  refine c_retK (.new (.lst ([t3, ((((z2 % 2147483629) * 48271) + (15485863 * k)) + 37), 0].map eI))) rfl (e2 := [.no, .no, .no]) rfl ?_
  exact rfl
def m_w_take : MS := (mSeq (mIfS (mTest (mOp (gCmp fun i j => decide (j < i)) (mOp gIx (mName 0) (mC (.int 0))) (mC (.int 0)))) (mSeq (mSet 5 (mOp gMod (mOp gIx (mName 0) (mC (.int 0))) (mName 1)))
    (mSeq (mAsg (mOp gDiv (mOp gIx (mName 0) (mC (.int 0))) (mName 1)) (mgSub 0 (mC (.int 0))))
    (mRetW [1, 2, 3, 4, 5] (mName 5)))) mSkip)
    (mSeq (mAsg (mOp gAdd (mOp gIx (mName 0) (mC (.int 2))) (mC (.int 1))) (mgSub 0 (mC (.int 2))))
    (mSeq (mSet 2 (mFrz (mOp gAdd (mC (.int 69621)) (mOp gMul (mOp gIx (mName 0) (mC (.int 2))) (mOp gIx (mName 0) (mC (.int 2)))))))
    (mSeq (mSet 3 (mFrz (mOp gMod (mOp gMul (mOp gAdd (mOp gIx (mName 0) (mC (.int 1))) (mOp gMul (mC (.int 39373)) (mOp gIx (mName 0) (mC (.int 2))))) (mName 2)) (mC (.int 2147483587)))))
    (mSeq (mSet 4 (mFrz (mOp gMod (mOp gAdd (mOp gMul (mName 3) (mOp gAdd (mOp gMod (mName 3) (mC (.int 30011))) (mC (.int 5)))) (mOp gIx (mName 0) (mC (.int 2)))) (mC (.int 2147483563)))))
    (mRetW [1, 2, 3, 4, 5] (mOp gMod (mOp gDiv (mOp gMod (mOp gMul (mName 4) (mOp gAdd (mOp gMod (mName 4) (mC (.int 1013))) (mC (.int 3)))) (mC (.int 998244353))) (mC (.int 16))) (mName 1))))))))
def fm_w_take : FM := fmOf 2 6 m_w_take
theorem ok_w_take (T : Tx w K mg fd) : FnOk P w K mg base CX0 1 (He.ga K "_law_take") (fd 9) ["_law_box_here", "_law_many"] (spF K fm_w_take) :=
  fn_ok T.F_w_take sc_w_take fun cdv A outer s H E hr => (show VSs _ _ m_w_take from (vs_cons (vs_if (vt_cmp op_gt (od_cmp (p := fun i j => decide (j < i))) (ve_ix ix_seq od_ix (ve_name 0) ve_int (fun _ _ => rfl)) ve_int (nomark _)) (vs_cons (vs_set (i := 5) sc_w_take.nd (ve_op op_mod od_mod (ve_ix ix_seq od_ix (ve_name 0) ve_int (fun _ _ => rfl)) (ve_name 1)))
      (vs_cons (vs_asg (ve_op op_fdiv od_div (ve_ix ix_seq od_ix (ve_name 0) ve_int (fun _ _ => rfl)) (ve_name 1)) (vg_sub (i := 0) ve_int))
      (vs_one (vs_retW (ve_name 5))))) vs_nil)
      (vs_cons (vs_asg (ve_op or_add od_add (ve_ix ix_seq od_ix (ve_name 0) ve_int (fun _ _ => rfl)) ve_int) (vg_sub (i := 0) ve_int))
      (vs_cons (vs_set (i := 2) sc_w_take.nd (ve_frz (ve_op or_add od_add ve_int (ve_op or_mul od_mul (ve_ix ix_seq od_ix (ve_name 0) ve_int (fun _ _ => rfl)) (ve_ix ix_seq od_ix (ve_name 0) ve_int (fun _ _ => rfl))))))
      (vs_cons (vs_set (i := 3) sc_w_take.nd (ve_frz (ve_op op_mod od_mod (ve_op or_mul od_mul (ve_op or_add od_add (ve_ix ix_seq od_ix (ve_name 0) ve_int (fun _ _ => rfl)) (ve_op or_mul od_mul ve_int (ve_ix ix_seq od_ix (ve_name 0) ve_int (fun _ _ => rfl)))) (ve_name 2)) ve_int)))
      (vs_cons (vs_set (i := 4) sc_w_take.nd (ve_frz (ve_op op_mod od_mod (ve_op or_add od_add (ve_op or_mul od_mul (ve_name 3) (ve_op or_add od_add (ve_op op_mod od_mod (ve_name 3) ve_int) ve_int)) (ve_ix ix_seq od_ix (ve_name 0) ve_int (fun _ _ => rfl))) ve_int)))
      (vs_one (vs_retW (ve_op op_mod od_mod (ve_op op_fdiv od_div (ve_op op_mod od_mod (ve_op or_mul od_mul (ve_name 4) (ve_op or_add od_add (ve_op op_mod od_mod (ve_name 4) ve_int) ve_int)) ve_int) ve_int) (ve_name 1))))))))))
def P_w_take (box : (List Int)) (many : Int) : Option (Int × (List Int)) :=
  (pIx box 0).bind fun t1 =>
  if decide (0 < t1) = true then
    (pIx box 0).bind fun t2 =>
    (pMod t2 many).bind fun t3 =>
    (pIx box 0).bind fun t4 =>
    (pDiv t4 many).bind fun t5 =>
    (pSet box 0 t5).bind fun box6 =>
    some (t3, box6)
  else
    (pIx box 2).bind fun t7 =>
    (pSet box 2 (t7 + 1)).bind fun box8 =>
    (pIx box8 2).bind fun t9 =>
    (pIx box8 2).bind fun t10 =>
    (pMul t9 t10).bind fun t11 =>
    (some (69621 + t11)).bind fun step12 =>
    (pIx box8 1).bind fun t13 =>
    (pIx box8 2).bind fun t14 =>
    (pMul (t13 + (39373 * t14)) step12).bind fun t15 =>
    (some (t15 % 2147483587)).bind fun once16 =>
    (pMul once16 ((once16 % 30011) + 5)).bind fun t17 =>
    (pIx box8 2).bind fun t18 =>
    (some ((t17 + t18) % 2147483563)).bind fun twice19 =>
    (pMul twice19 ((twice19 % 1013) + 3)).bind fun t20 =>
    (pMod ((t20 % 998244353) / 16) many).bind fun t21 =>
    some (t21, box8)
theorem q_w_take (box : (List Int)) (many : Int) : fm_w_take [.io 0 (.lst (box.map eI)), .val (eI many)] = (P_w_take box many).map fun z => (.dat (eI z.1), [.io 0 (.lst (z.2.map eI)), .no]) := by
  unfold fm_w_take m_w_take P_w_take
  refine c_fm (oR := fun z : (Int × (List Int)) => .dat (eI z.1)) (eR := fun z => [.io 0 (.lst (z.2.map eI)), .no, .no, .no, .no, .no]) [.io 0 (.lst (box.map eI)), .val (eI many), .no, .no, .no, .no] rfl rfl ?_ (fun _ => rfl) (fun _ => by walk_at "ik") (fun _ => rfl)
  refine c_seq ?_
  refine c_ifS ?_
  refine c_test ?_
  refine c_op ?_
  refine c_op ?_
  refine c_nameI rfl ?_
  refine c_c ?_
  refine c_opK rfl rfl ?_
  refine c_cal (x_ix (e := eI) (l := box)) fun t1 => ?_
  refine c_c ?_
  refine c_opK rfl rfl ?_
  refine c_pur x_cmp ?_
  refine c_testK ?_
  refine c_ite ?_ ?_
  · refine c_seq ?_
    refine c_set ?_
    refine c_op ?_
    refine c_op ?_
    refine c_nameI rfl ?_
    refine c_c ?_
    refine c_opK rfl rfl ?_
    refine c_cal (x_ix (e := eI) (l := box)) fun t2 => ?_
    refine c_nameV rfl ?_
    refine c_opK rfl rfl ?_
    refine c_cal x_mod fun t3 => ?_
    refine c_setD (e2 := [.io 0 (.lst (box.map eI)), .val (eI many), .no, .no, .no, .val (eI t3)]) rfl ?_
    refine c_seqN ?_
    refine c_seq ?_
    refine c_asg ?_
    refine c_op ?_
    refine c_op ?_
    refine c_nameI rfl ?_
    refine c_c ?_
    refine c_opK rfl rfl ?_
    refine c_cal (x_ix (e := eI) (l := box)) fun t4 => ?_
    refine c_nameV rfl ?_
    refine c_opK rfl rfl ?_
    refine c_cal x_div fun t5 => ?_
    refine c_frzD ?_
    refine c_asgK ?_
    refine c_gsub rfl ?_
    refine c_c ?_
    refine c_gsubP eI box t5 (fun box6 => [.io 0 (.lst (box6.map eI)), .val (eI many), .no, .no, .no, .val (eI t3)]) rfl (fun _ => rfl) fun box6 => ?_
    refine c_seqN ?_
    refine c_ret ?_
    refine c_nameV rfl ?_
    refine c_retK (.dat (eI t3)) rfl (e2 := [.io 0 (.lst (box6.map eI)), .no, .no, .no, .no, .no]) rfl ?_
    refine c_seqR ?_
    exact rfl
  · refine c_skip ?_
    refine c_seqN ?_
    refine c_seq ?_
    refine c_asg ?_
    refine c_op ?_
    refine c_op ?_
    refine c_nameI rfl ?_
    refine c_c ?_
    refine c_opK rfl rfl ?_
    refine c_cal (x_ix (e := eI) (l := box)) fun t7 => ?_
    refine c_c ?_
    refine c_opK rfl rfl ?_
    refine c_pur x_add ?_
    refine c_frzD ?_
    refine c_asgK ?_
    refine c_gsub rfl ?_
    refine c_c ?_
    refine c_gsubP eI box (t7 + 1) (fun box8 => [.io 0 (.lst (box8.map eI)), .val (eI many), .no, .no, .no, .no]) rfl (fun _ => rfl) fun box8 => ?_
    refine c_seqN ?_
    refine c_seq ?_
    refine c_set ?_
    refine c_frz ?_
    refine c_op ?_
    refine c_c ?_
    refine c_op ?_
    refine c_op ?_
    refine c_nameI rfl ?_
    refine c_c ?_
    refine c_opK rfl rfl ?_
    refine c_cal (x_ix (e := eI) (l := box8)) fun t9 => ?_
    refine c_op ?_
    refine c_nameI rfl ?_
    refine c_c ?_
    refine c_opK rfl rfl ?_
    refine c_cal (x_ix (e := eI) (l := box8)) fun t10 => ?_
    refine c_opK rfl rfl ?_
    refine c_cal x_mul fun t11 => ?_
    refine c_opK rfl rfl ?_
    refine c_pur x_add ?_
    refine c_frzD ?_
    refine c_setDL (τ := Int) eI (69621 + t11) (fun step12 => [.io 0 (.lst (box8.map eI)), .val (eI many), .val (eI step12), .no, .no, .no]) (fun _ => rfl) fun step12 => ?_
    refine c_seqN ?_
    refine c_seq ?_
    refine c_set ?_
    refine c_frz ?_
    refine c_op ?_
    refine c_op ?_
    refine c_op ?_
    refine c_op ?_
    refine c_nameI rfl ?_
    refine c_c ?_
    refine c_opK rfl rfl ?_
    refine c_cal (x_ix (e := eI) (l := box8)) fun t13 => ?_
    refine c_op ?_
    refine c_c ?_
    refine c_op ?_
    refine c_nameI rfl ?_
    refine c_c ?_
    refine c_opK rfl rfl ?_
    refine c_cal (x_ix (e := eI) (l := box8)) fun t14 => ?_
    refine c_opK rfl rfl ?_
    refine c_pur (x_mulL (by decide)) ?_
    refine c_opK rfl rfl ?_
    refine c_pur x_add ?_
    refine c_nameV rfl ?_
    refine c_opK rfl rfl ?_
    refine c_cal x_mul fun t15 => ?_
    refine c_c ?_
    refine c_opK rfl rfl ?_
    refine c_pur (x_modC (by decide)) ?_
    refine c_frzD ?_
    refine c_setDL (τ := Int) eI (t15 % 2147483587) (fun once16 => [.io 0 (.lst (box8.map eI)), .val (eI many), .val (eI step12), .val (eI once16), .no, .no]) (fun _ => rfl) fun once16 => ?_
    refine c_seqN ?_
    refine c_seq ?_
    refine c_set ?_
    refine c_frz ?_
    refine c_op ?_
    refine c_op ?_
    refine c_op ?_
    refine c_nameV rfl ?_
    refine c_op ?_
    refine c_op ?_
    refine c_nameV rfl ?_
    refine c_c ?_
    refine c_opK rfl rfl ?_
    refine c_pur (x_modC (by decide)) ?_
    refine c_c ?_
    refine c_opK rfl rfl ?_
    refine c_pur x_add ?_
    refine c_opK rfl rfl ?_
    refine c_cal x_mul fun t17 => ?_
    refine c_op ?_
    refine c_nameI rfl ?_
    refine c_c ?_
    refine c_opK rfl rfl ?_
    refine c_cal (x_ix (e := eI) (l := box8)) fun t18 => ?_
    refine c_opK rfl rfl ?_
    refine c_pur x_add ?_
    refine c_c ?_
    refine c_opK rfl rfl ?_
    refine c_pur (x_modC (by decide)) ?_
    refine c_frzD ?_
    refine c_setDL (τ := Int) eI ((t17 + t18) % 2147483563) (fun twice19 => [.io 0 (.lst (box8.map eI)), .val (eI many), .val (eI step12), .val (eI once16), .val (eI twice19), .no]) (fun _ => rfl) fun twice19 => ?_
    refine c_seqN ?_
    refine c_ret ?_
    refine c_op ?_
    refine c_op ?_
    refine c_op ?_
    refine c_op ?_
    refine c_nameV rfl ?_
    refine c_op ?_
    refine c_op ?_
    refine c_nameV rfl ?_
    refine c_c ?_
    refine c_opK rfl rfl ?_
    refine c_pur (x_modC (by decide)) ?_
    refine c_c ?_
    refine c_opK rfl rfl ?_
    refine c_pur x_add ?_
    refine c_opK rfl rfl ?_
    refine c_cal x_mul fun t20 => ?_
    refine c_c ?_
    refine c_opK rfl rfl ?_
    refine c_pur (x_modC (by decide)) ?_
    refine c_c ?_
    refine c_opK rfl rfl ?_
    refine c_pur (x_divC (by decide)) ?_
    refine c_nameV rfl ?_
    refine c_opK rfl rfl ?_
    refine c_cal x_mod fun t21 => ?_
    refine c_retK (.dat (eI t21)) rfl (e2 := [.io 0 (.lst (box8.map eI)), .no, .no, .no, .no, .no]) rfl ?_
    exact rfl
def m_w_wide_b1 : MS := (mAft [3] (mSet 2 (mFrz (mOp gAdd (mOp gMul (mName 2) (mOp gPow (mC (.int 10)) (mC (.int 9)))) (mCallF fm_w_take (some 0) (mCons (mName 0) (mCons (mOp gPow (mC (.int 10)) (mC (.int 9))) mNil)))))))
def P_w_wide_b2  (xx : Int) (ss : ((List Int) × Int)) : Option ((List Int) × Int) :=
  (P_w_take ss.1 1000000000).bind fun r2 =>
  (some ((ss.2 * 1000000000) + r2.1)).bind fun found3 =>
  some (r2.2, found3)
theorem s_w_wide_b2 (o1 : Slot) (xx : Int) (ss : ((List Int) × Int)) : ((mgName 3) (eI xx) [.io 0 (.lst (ss.1.map eI)), o1, .val (eI ss.2), .no]).bind m_w_wide_b1 = (P_w_wide_b2  xx ss).map (outN (fun ss : ((List Int) × Int) => [.io 0 (.lst (ss.1.map eI)), o1, .val (eI ss.2), .no])) := c_body (by
  unfold P_w_wide_b2 m_w_wide_b1
  refine c_gname (e2 := [.io 0 (.lst (ss.1.map eI)), o1, .val (eI ss.2), .val (eI xx)]) rfl ?_
  refine c_aft ?_
  refine c_set ?_
  refine c_frz ?_
  refine c_op ?_
  refine c_op ?_
  refine c_nameV rfl ?_
  refine c_op ?_
  refine c_c ?_
  refine c_c ?_
  refine c_opK rfl rfl ?_
  refine c_pur (v := .dat (.int 1000000000)) rfl ?_
  refine c_opK rfl rfl ?_
  refine c_pur (x_mulR (by decide)) ?_
  refine c_callF ?_
  refine c_cons ?_
  refine c_nameI rfl ?_
  refine c_cons ?_
  refine c_op ?_
  refine c_c ?_
  refine c_c ?_
  refine c_opK rfl rfl ?_
  refine c_pur (v := .dat (.int 1000000000)) rfl ?_
  refine c_nil ?_
  refine c_callK (bk := fun r2 => [.io 0 (.lst (r2.2.map eI)), o1, .val (eI ss.2), .val (eI xx)]) rfl rfl (q_w_take ss.1 1000000000) (fun _ => by walk_at "fl") (fun _ => rfl) fun r2 => ?_
  refine c_opK rfl rfl ?_
  refine c_pur x_add ?_
  refine c_frzD ?_
  refine c_setDL (τ := Int) eI ((ss.2 * 1000000000) + r2.1) (fun found3 => [.io 0 (.lst (r2.2.map eI)), o1, .val (eI found3), .val (eI xx)]) (fun _ => rfl) fun found3 => ?_
  refine c_aftN (e2 := [.io 0 (.lst (r2.2.map eI)), o1, .val (eI found3), .no]) rfl ?_
  exact rfl)
def m_w_wide : MS := (mSeq (mSet 2 (mFrz (mC (.int 0))))
    (mSeq (mBef [3] (mFor (mRange1 (mCons (mC (.int 4)) mNil)) (mgName 3) m_w_wide_b1))
    (mRetW [1, 2, 3] (mOp gMod (mName 2) (mName 1)))))
def fm_w_wide : FM := fmOf 2 4 m_w_wide
theorem ok_w_wide (T : Tx w K mg fd) : FnOk P w K mg base CX0 2 (He.ga K "_law_wide") (fd 10) ["_law_box_here", "_law_many"] (spF K fm_w_wide) :=
  fn_ok T.F_w_wide sc_w_wide fun cdv A outer s H E hr => (show VSs _ _ m_w_wide from (vs_cons (vs_set (i := 2) sc_w_wide.nd (ve_frz ve_int))
      (vs_cons (vs_bef (ws := [3]) (vs_for PassesOwn.never (vi_range1 T.b_range (va_cons ve_int va_nil)) (vg_name (j := 3) sc_w_wide.nd) (vs_aft (ws := [3]) (vs_one (vs_set (i := 2) sc_w_wide.nd (ve_frz (ve_op or_add od_add (ve_op or_mul od_mul (ve_name 2) (ve_op op_pow od_pow ve_int ve_int)) (ve_callF (some 0) (FnOk.mono (ok_w_take T) (by decide)) hr T.g_w_take T.F_w_take.kp (bi_w_take T) (va_cons (ve_name 0) (va_cons (ve_op op_pow od_pow ve_int ve_int) va_nil))))))))))
      (vs_one (vs_retW (ve_op op_mod od_mod (ve_name 2) (ve_name 1)))))))
def P_w_wide (box : (List Int)) (many : Int) : Option (Int × (List Int)) :=
  (pRng 4).bind fun l1 =>
  (forP (P_w_wide_b2 ) l1 (box, 0)).bind fun s4 =>
  (pMod s4.2 many).bind fun t5 =>
  some (t5, s4.1)
theorem q_w_wide (box : (List Int)) (many : Int) : fm_w_wide [.io 0 (.lst (box.map eI)), .val (eI many)] = (P_w_wide box many).map fun z => (.dat (eI z.1), [.io 0 (.lst (z.2.map eI)), .no]) := by
  unfold fm_w_wide m_w_wide P_w_wide
  refine c_fm (oR := fun z : (Int × (List Int)) => .dat (eI z.1)) (eR := fun z => [.io 0 (.lst (z.2.map eI)), .no, .no, .no]) [.io 0 (.lst (box.map eI)), .val (eI many), .no, .no] rfl rfl ?_ (fun _ => rfl) (fun _ => by walk_at "ik") (fun _ => rfl)
  refine c_seq ?_
  refine c_set ?_
  refine c_frz ?_
  refine c_c ?_
  refine c_frzD ?_
  refine c_setD (e2 := [.io 0 (.lst (box.map eI)), .val (eI many), .val (eI 0), .no]) rfl ?_
  refine c_seqN ?_
  refine c_seq ?_
  refine c_bef (e2 := [.io 0 (.lst (box.map eI)), .val (eI many), .val (eI 0), .no]) rfl ?_
  refine c_for ?_
  refine c_rng ?_
  refine c_cons ?_
  refine c_c ?_
  refine c_nil ?_
  refine c_rngK rfl fun l1 => ?_
  refine c_loop (E := fun sE : ((List Int) × Int) => [.io 0 (.lst (sE.1.map eI)), .val (eI many), .val (eI sE.2), .no]) (forL_P (E := fun sE : ((List Int) × Int) => [.io 0 (.lst (sE.1.map eI)), .val (eI many), .val (eI sE.2), .no]) (ec := eI) (s_w_wide_b2 (.val (eI many))) _ (box, 0)) fun s4 => ?_
  refine c_seqN ?_
  refine c_ret ?_
  refine c_op ?_
  refine c_nameV rfl ?_
  refine c_nameV rfl ?_
  refine c_opK rfl rfl ?_
  refine c_cal x_mod fun t5 => ?_
  refine c_retK (.dat (eI t5)) rfl (e2 := [.io 0 (.lst (s4.1.map eI)), .no, .no, .no]) rfl ?_
  exact rfl
def m_w_number : MS := (mSeq (mPutU [2, 3] (mConsU (mFrz (mCallF fm_w_take (some 0) (mCons (mName 0) (mCons (mC (.int 7)) mNil)))) (mConsU (mFrz (mOp gMinus (mCallF fm_w_take (some 0) (mCons (mName 0) (mCons (mC (.int 3)) mNil))) (mC (.int 1)))) mNil)))
    (mSeq (mIfS (mTest (mOp (gEq false) (mName 2) (mC (.int 0)))) (mRetW [1, 2, 3] (mCallF fm_w_take (some 0) (mCons (mName 0) (mCons (mC (.int 60)) mNil)))) mSkip)
    (mSeq (mIfS (mTest (mOp (gCmp fun i j => decide (i < j)) (mName 2) (mC (.int 4)))) (mRetW [1, 2, 3] (mOp gAdd (mOp gMul (mOp gIx (mLst (mCons (mFrz (mC (.int 1))) (mCons (mFrz (mOp gIx (mName 1) (mC (.int 1)))) (mCons (mFrz (mOp gIx (mName 1) (mC (.int 0)))) mNil)))) (mOp gMinus (mName 2) (mC (.int 1)))) (mCallF fm_w_take (some 0) (mCons (mName 0) (mCons (mC (.int 40)) mNil)))) (mCB (gInt2 fun i j => if j > i then j else i) (mCons (mC (.int 0)) (mCons (mName 3) mNil))))) mSkip)
    (mSeq (mIfS (mTest (mOp (gEq false) (mName 2) (mC (.int 4)))) (mRetW [1, 2, 3] (mCB (gInt2 fun i j => if j > i then j else i) (mCons (mC (.int 0)) (mCons (mOp gAdd (mOp gMul (mOp gIx (mName 1) (mC (.int 0))) (mOp gPow (mC (.int 10)) (mC (.int 9)))) (mOp gMul (mName 3) (mOp gIx (mLst (mCons (mFrz (mC (.int 1))) (mCons (mFrz (mOp gIx (mName 1) (mC (.int 1)))) (mCons (mFrz (mOp gIx (mName 1) (mC (.int 0)))) mNil)))) (mCallF fm_w_take (some 0) (mCons (mName 0) (mCons (mC (.int 3)) mNil)))))) mNil)))) mSkip)
    (mSeq (mIfS (mTest (mOp (gEq false) (mName 2) (mC (.int 5)))) (mRetW [1, 2, 3] (mOp gMinus (mOp gPow (mC (.int 10)) (mC (.int 15))) (mCallF fm_w_take (some 0) (mCons (mName 0) (mCons (mC (.int 2)) mNil))))) mSkip)
    (mRetW [1, 2, 3] (mCallF fm_w_wide (some 0) (mCons (mName 0) (mCons (mOp gAdd (mOp gPow (mC (.int 10)) (mC (.int 15))) (mC (.int 1))) mNil)))))))))
def fm_w_number : FM := fmOf 2 4 m_w_number
theorem ok_w_number (T : Tx w K mg fd) : FnOk P w K mg base CX0 3 (He.ga K "_law_number") (fd 11) ["_law_box_here", "_law_units"] (spF K fm_w_number) :=
  fn_ok T.F_w_number sc_w_number fun cdv A outer s H E hr => (show VSs _ _ m_w_number from (vs_cons (vs_par (i := 2) (j := 3) sc_w_number.nd (vau_cons (ve_frz (ve_callF (some 0) (FnOk.mono (ok_w_take T) (by decide)) hr T.g_w_take T.F_w_take.kp (bi_w_take T) (va_cons (ve_name 0) (va_cons ve_int va_nil)))) (vau_cons (ve_frz (ve_op op_sub od_sub (ve_callF (some 0) (FnOk.mono (ok_w_take T) (by decide)) hr T.g_w_take T.F_w_take.kp (bi_w_take T) (va_cons (ve_name 0) (va_cons ve_int va_nil))) ve_int)) vau_nil)))
      (vs_cons (vs_if (vt_cmp (or_eq hr.units) od_eq (ve_name 2) ve_int (nomark _)) (vs_one (vs_retW (ve_callF (some 0) (FnOk.mono (ok_w_take T) (by decide)) hr T.g_w_take T.F_w_take.kp (bi_w_take T) (va_cons (ve_name 0) (va_cons ve_int va_nil))))) vs_nil)
      (vs_cons (vs_if (vt_cmp op_lt (od_cmp (p := fun i j => decide (i < j))) (ve_name 2) ve_int (nomark _)) (vs_one (vs_retW (ve_op or_add od_add (ve_op or_mul od_mul (ve_ix ix_seq od_ix (ve_lst (va_cons (ve_frz ve_int) (va_cons (ve_frz (ve_ix ix_seq od_ix (ve_name 1) ve_int (fun _ _ => rfl))) (va_cons (ve_frz (ve_ix ix_seq od_ix (ve_name 1) ve_int (fun _ _ => rfl))) va_nil)))) (ve_op op_sub od_sub (ve_name 2) ve_int) (fun _ _ => rfl)) (ve_callF (some 0) (FnOk.mono (ok_w_take T) (by decide)) hr T.g_w_take T.F_w_take.kp (bi_w_take T) (va_cons (ve_name 0) (va_cons ve_int va_nil)))) (ve_callB (call_max2 rfl) (cd_int2 (f := fun i j => if j > i then j else i)) (by rfl) T.b_max (by decide +kernel) (va_cons ve_int (va_cons (ve_name 3) va_nil)))))) vs_nil)
      (vs_cons (vs_if (vt_cmp (or_eq hr.units) od_eq (ve_name 2) ve_int (nomark _)) (vs_one (vs_retW (ve_callB (call_max2 rfl) (cd_int2 (f := fun i j => if j > i then j else i)) (by rfl) T.b_max (by decide +kernel) (va_cons ve_int (va_cons (ve_op or_add od_add (ve_op or_mul od_mul (ve_ix ix_seq od_ix (ve_name 1) ve_int (fun _ _ => rfl)) (ve_op op_pow od_pow ve_int ve_int)) (ve_op or_mul od_mul (ve_name 3) (ve_ix ix_seq od_ix (ve_lst (va_cons (ve_frz ve_int) (va_cons (ve_frz (ve_ix ix_seq od_ix (ve_name 1) ve_int (fun _ _ => rfl))) (va_cons (ve_frz (ve_ix ix_seq od_ix (ve_name 1) ve_int (fun _ _ => rfl))) va_nil)))) (ve_callF (some 0) (FnOk.mono (ok_w_take T) (by decide)) hr T.g_w_take T.F_w_take.kp (bi_w_take T) (va_cons (ve_name 0) (va_cons ve_int va_nil))) (fun _ _ => rfl)))) va_nil))))) vs_nil)
      (vs_cons (vs_if (vt_cmp (or_eq hr.units) od_eq (ve_name 2) ve_int (nomark _)) (vs_one (vs_retW (ve_op op_sub od_sub (ve_op op_pow od_pow ve_int ve_int) (ve_callF (some 0) (FnOk.mono (ok_w_take T) (by decide)) hr T.g_w_take T.F_w_take.kp (bi_w_take T) (va_cons (ve_name 0) (va_cons ve_int va_nil)))))) vs_nil)
      (vs_one (vs_retW (ve_callF (some 0) (FnOk.mono (ok_w_wide T) (by decide)) hr T.g_w_wide T.F_w_wide.kp (bi_w_wide T) (va_cons (ve_name 0) (va_cons (ve_op or_add od_add (ve_op op_pow od_pow ve_int ve_int) ve_int) va_nil)))))))))))
def P_w_number (box : (List Int)) (units : (Int × Int)) : Option (Int × (List Int)) :=
  (P_w_take box 7).bind fun r1 =>
  (P_w_take r1.2 3).bind fun r2 =>
  if decide (r1.1 = 0) = true then
    (P_w_take r2.2 60).bind fun r3 =>
    some (r3.1, r3.2)
  else
    if decide (r1.1 < 4) = true then
      (pIx [1, units.2, units.1] (r1.1 - 1)).bind fun t4 =>
      (P_w_take r2.2 40).bind fun r5 =>
      (pMul t4 r5.1).bind fun t6 =>
      some ((t6 + (maxI 0 (r2.1 - 1))), r5.2)
    else
      if decide (r1.1 = 4) = true then
        (P_w_take r2.2 3).bind fun r7 =>
        (pIx [1, units.2, units.1] r7.1).bind fun t8 =>
        (pMul (r2.1 - 1) t8).bind fun t9 =>
        some ((maxI 0 ((units.1 * 1000000000) + t9)), r7.2)
      else
        if decide (r1.1 = 5) = true then
          (P_w_take r2.2 2).bind fun r10 =>
          some ((1000000000000000 - r10.1), r10.2)
        else
          (P_w_wide r2.2 (1000000000000000 + 1)).bind fun r11 =>
          some (r11.1, r11.2)
theorem q_w_number (box : (List Int)) (units : (Int × Int)) : fm_w_number [.io 0 (.lst (box.map eI)), .val ((eT2 eI eI) units)] = (P_w_number box units).map fun z => (.dat (eI z.1), [.io 0 (.lst (z.2.map eI)), .no]) := by
  unfold fm_w_number m_w_number P_w_number
  refine c_fm (oR := fun z : (Int × (List Int)) => .dat (eI z.1)) (eR := fun z => [.io 0 (.lst (z.2.map eI)), .no, .no, .no]) [.io 0 (.lst (box.map eI)), .val ((eT2 eI eI) units), .no, .no] rfl rfl ?_ (fun _ => rfl) (fun _ => by walk_at "ik") (fun _ => rfl)
  refine c_seq ?_
  refine c_putU ?_
  refine c_consU ?_
  refine c_frz ?_
  refine c_callF ?_
  refine c_cons ?_
  refine c_nameI rfl ?_
  refine c_cons ?_
  refine c_c ?_
  refine c_nil ?_
  refine c_callK (bk := fun r1 => [.io 0 (.lst (r1.2.map eI)), .val ((eT2 eI eI) units), .no, .no]) rfl rfl (q_w_take box 7) (fun _ => by walk_at "fl") (fun _ => rfl) fun r1 => ?_
  refine c_frzD ?_
  refine c_frzSD ?_
  refine c_consU ?_
  refine c_frz ?_
  refine c_op ?_
  refine c_callF ?_
  refine c_cons ?_
  refine c_nameI rfl ?_
  refine c_cons ?_
  refine c_c ?_
  refine c_nil ?_
  refine c_callK (bk := fun r2 => [.io 0 (.lst (r2.2.map eI)), .val ((eT2 eI eI) units), .no, .no]) rfl rfl (q_w_take r1.2 3) (fun _ => by walk_at "fl") (fun _ => rfl) fun r2 => ?_
  refine c_c ?_
  refine c_opK rfl rfl ?_
  refine c_pur x_sub ?_
  refine c_frzD ?_
  refine c_frzSD ?_
  refine c_nil ?_
  refine c_putUK [.io 0 (.lst (r2.2.map eI)), .val ((eT2 eI eI) units), .val (eI r1.1), .val (eI (r2.1 - 1))] rfl ?_
  refine c_seqN ?_
  refine c_seq ?_
  refine c_ifS ?_
  refine c_test ?_
  refine c_op ?_
  refine c_nameV rfl ?_
  refine c_c ?_
  refine c_opK rfl rfl ?_
  refine c_pur x_eqI0 ?_
  refine c_testK ?_
  refine c_ite ?_ ?_
  · refine c_ret ?_
    refine c_callF ?_
    refine c_cons ?_
    refine c_nameI rfl ?_
    refine c_cons ?_
    refine c_c ?_
    refine c_nil ?_
    refine c_callK (bk := fun r3 => [.io 0 (.lst (r3.2.map eI)), .val ((eT2 eI eI) units), .val (eI r1.1), .val (eI (r2.1 - 1))]) rfl rfl (q_w_take r2.2 60) (fun _ => by walk_at "fl") (fun _ => rfl) fun r3 => ?_
    refine c_retK (.dat (eI r3.1)) rfl (e2 := [.io 0 (.lst (r3.2.map eI)), .no, .no, .no]) rfl ?_
    refine c_seqR ?_
    exact rfl
  · refine c_skip ?_
    refine c_seqN ?_
    refine c_seq ?_
    refine c_ifS ?_
    refine c_test ?_
    refine c_op ?_
    refine c_nameV rfl ?_
    refine c_c ?_
    refine c_opK rfl rfl ?_
    refine c_pur x_cmp ?_
    refine c_testK ?_
    refine c_ite ?_ ?_
    · refine c_ret ?_
      refine c_op ?_
      refine c_op ?_
      refine c_op ?_
      refine c_lst ?_
      refine c_cons ?_
      refine c_frz ?_
      refine c_c ?_
      refine c_frzD ?_
      refine c_cons ?_
      refine c_frz ?_
      refine c_op ?_
      refine c_nameV rfl ?_
      refine c_c ?_
      refine c_opK rfl rfl ?_
      refine c_pur (x_ixT rfl) ?_
      refine c_frzD ?_
      refine c_cons ?_
      refine c_frz ?_
      refine c_op ?_
      refine c_nameV rfl ?_
      refine c_c ?_
      refine c_opK rfl rfl ?_
      refine c_pur (x_ixT rfl) ?_
      refine c_frzD ?_
      refine c_nil ?_
      refine c_lstK ([1, units.2, units.1].map eI) rfl (Nat.le_of_ble_eq_true rfl) ?_
      refine c_op ?_
      refine c_nameV rfl ?_
      refine c_c ?_
      refine c_opK rfl rfl ?_
      refine c_pur x_sub ?_
      refine c_opK rfl rfl ?_
      refine c_cal (x_ix (e := eI) (l := [1, units.2, units.1])) fun t4 => ?_
      refine c_callF ?_
      refine c_cons ?_
      refine c_nameI rfl ?_
      refine c_cons ?_
      refine c_c ?_
      refine c_nil ?_
      refine c_callK (bk := fun r5 => [.io 0 (.lst (r5.2.map eI)), .val ((eT2 eI eI) units), .val (eI r1.1), .val (eI (r2.1 - 1))]) rfl rfl (q_w_take r2.2 40) (fun _ => by walk_at "fl") (fun _ => rfl) fun r5 => ?_
      refine c_opK rfl rfl ?_
      refine c_cal x_mul fun t6 => ?_
      refine c_cb ?_
      refine c_cons ?_
      refine c_c ?_
      refine c_cons ?_
      refine c_nameV rfl ?_
      refine c_nil ?_
      refine c_cbK _ rfl ?_
      refine c_pur x_int2 ?_
      refine c_opK rfl rfl ?_
      refine c_pur x_add ?_
      refine c_retK (.dat (eI (t6 + (maxI 0 (r2.1 - 1))))) rfl (e2 := [.io 0 (.lst (r5.2.map eI)), .no, .no, .no]) rfl ?_
      refine c_seqR ?_
      exact rfl
    · refine c_skip ?_
      refine c_seqN ?_
      refine c_seq ?_
      refine c_ifS ?_
      refine c_test ?_
      refine c_op ?_
      refine c_nameV rfl ?_
      refine c_c ?_
      refine c_opK rfl rfl ?_
      refine c_pur x_eqI0 ?_
      refine c_testK ?_
      refine c_ite ?_ ?_
      · refine c_ret ?_
        refine c_cb ?_
        refine c_cons ?_
        refine c_c ?_
        refine c_cons ?_
        refine c_op ?_
        refine c_op ?_
        refine c_op ?_
        refine c_nameV rfl ?_
        refine c_c ?_
        refine c_opK rfl rfl ?_
        refine c_pur (x_ixT rfl) ?_
        refine c_op ?_
        refine c_c ?_
        refine c_c ?_
        refine c_opK rfl rfl ?_
        refine c_pur (v := .dat (.int 1000000000)) rfl ?_
        refine c_opK rfl rfl ?_
        refine c_pur (x_mulR (by decide)) ?_
        refine c_op ?_
        refine c_nameV rfl ?_
        refine c_op ?_
        refine c_lst ?_
        refine c_cons ?_
        refine c_frz ?_
        refine c_c ?_
        refine c_frzD ?_
        refine c_cons ?_
        refine c_frz ?_
        refine c_op ?_
        refine c_nameV rfl ?_
        refine c_c ?_
        refine c_opK rfl rfl ?_
        refine c_pur (x_ixT rfl) ?_
        refine c_frzD ?_
        refine c_cons ?_
        refine c_frz ?_
        refine c_op ?_
        refine c_nameV rfl ?_
        refine c_c ?_
        refine c_opK rfl rfl ?_
        refine c_pur (x_ixT rfl) ?_
        refine c_frzD ?_
        refine c_nil ?_
        refine c_lstK ([1, units.2, units.1].map eI) rfl (Nat.le_of_ble_eq_true rfl) ?_
        refine c_callF ?_
        refine c_cons ?_
        refine c_nameI rfl ?_
        refine c_cons ?_
        refine c_c ?_
        refine c_nil ?_
        refine c_callK (bk := fun r7 => [.io 0 (.lst (r7.2.map eI)), .val ((eT2 eI eI) units), .val (eI r1.1), .val (eI (r2.1 - 1))]) rfl rfl (q_w_take r2.2 3) (fun _ => by walk_at "fl") (fun _ => rfl) fun r7 => ?_
        refine c_opK rfl rfl ?_
        refine c_cal (x_ix (e := eI) (l := [1, units.2, units.1])) fun t8 => ?_
        refine c_opK rfl rfl ?_
        refine c_cal x_mul fun t9 => ?_
        refine c_opK rfl rfl ?_
        refine c_pur x_add ?_
        refine c_nil ?_
        refine c_cbK _ rfl ?_
        refine c_pur x_int2 ?_
        refine c_retK (.dat (eI (maxI 0 ((units.1 * 1000000000) + t9)))) rfl (e2 := [.io 0 (.lst (r7.2.map eI)), .no, .no, .no]) rfl ?_
        refine c_seqR ?_
        exact rfl
      · refine c_skip ?_
        refine c_seqN ?_
        refine c_seq ?_
        refine c_ifS ?_
        refine c_test ?_
        refine c_op ?_
        refine c_nameV rfl ?_
        refine c_c ?_
        refine c_opK rfl rfl ?_
        refine c_pur x_eqI0 ?_
        refine c_testK ?_
        refine c_ite ?_ ?_
        · refine c_ret ?_
          refine c_op ?_
          refine c_op ?_
          refine c_c ?_
          refine c_c ?_
          refine c_opK rfl rfl ?_
          refine c_pur (v := .dat (.int 1000000000000000)) rfl ?_
          refine c_callF ?_
          refine c_cons ?_
          refine c_nameI rfl ?_
          refine c_cons ?_
          refine c_c ?_
          refine c_nil ?_
          refine c_callK (bk := fun r10 => [.io 0 (.lst (r10.2.map eI)), .val ((eT2 eI eI) units), .val (eI r1.1), .val (eI (r2.1 - 1))]) rfl rfl (q_w_take r2.2 2) (fun _ => by walk_at "fl") (fun _ => rfl) fun r10 => ?_
          refine c_opK rfl rfl ?_
          refine c_pur x_sub ?_
          refine c_retK (.dat (eI (1000000000000000 - r10.1))) rfl (e2 := [.io 0 (.lst (r10.2.map eI)), .no, .no, .no]) rfl ?_
          refine c_seqR ?_
          exact rfl
        · refine c_skip ?_
          refine c_seqN ?_
          refine c_ret ?_
          refine c_callF ?_
          refine c_cons ?_
          refine c_nameI rfl ?_
          refine c_cons ?_
          refine c_op ?_
          refine c_op ?_
          refine c_c ?_
          refine c_c ?_
          refine c_opK rfl rfl ?_
          refine c_pur (v := .dat (.int 1000000000000000)) rfl ?_
          refine c_c ?_
          refine c_opK rfl rfl ?_
          refine c_pur x_add ?_
          refine c_nil ?_
          refine c_callK (bk := fun r11 => [.io 0 (.lst (r11.2.map eI)), .val ((eT2 eI eI) units), .val (eI r1.1), .val (eI (r2.1 - 1))]) rfl rfl (q_w_wide r2.2 (1000000000000000 + 1)) (fun _ => by walk_at "fl") (fun _ => rfl) fun r11 => ?_
          refine c_retK (.dat (eI r11.1)) rfl (e2 := [.io 0 (.lst (r11.2.map eI)), .no, .no, .no]) rfl ?_
          exact rfl
def m_w_written_e1 : ME := (mOp gAdd (mCB gStr (mCons (mName 5) mNil)) (mName 6))
def m_w_written_t2 : MT := (mTest (mOp (gEq true) (mName 5) (mC (.int 0))))
def P_w_written_l3  (y8 : (Int × Str)) : Option (Option Str) :=
  if (!decide (y8.1 = 0)) = true then
    (pStr y8.1).bind fun t9 =>
    (pCatS t9 y8.2).bind fun t10 =>
    some (some t10)
  else
    some none
theorem s_w_written_l3 (o0 : Slot) (o1 : Slot) (o2 : Slot) (o3 : Slot) (y8 : (Int × Str)) : lcStep (mgTup (mgCons (mgName 5) (mgCons (mgName 6) mgNil))) m_w_written_t2 m_w_written_e1 [5, 6] ((eT2 eI eS) y8) [o0, o1, o2, o3, .no, .no, .no] = (P_w_written_l3  y8).map fun z => (Option.map eS z, [o0, o1, o2, o3, .no, .no, .no]) := c_stepM (α := Unit) (by
  unfold P_w_written_l3
  refine c_gtup ?_
  refine c_gcons ?_
  refine c_gname (e2 := [o0, o1, o2, o3, .no, .val (eI y8.1), .no]) rfl ?_
  refine c_gcons ?_
  refine c_gname (e2 := [o0, o1, o2, o3, .no, .val (eI y8.1), .val (eS y8.2)]) rfl ?_
  refine c_gnil ?_
  refine c_test ?_
  refine c_op ?_
  refine c_nameV rfl ?_
  refine c_c ?_
  refine c_opK rfl rfl ?_
  refine c_pur x_eqI1 ?_
  refine c_testK ?_
  refine c_ite ?_ ?_
  · refine c_bb ?_
    refine c_op ?_
    refine c_cb ?_
    refine c_cons ?_
    refine c_nameV rfl ?_
    refine c_nil ?_
    refine c_cbK _ rfl ?_
    refine c_cal x_str fun t9 => ?_
    refine c_nameV rfl ?_
    refine c_opK rfl rfl ?_
    refine c_cal x_catS fun t10 => ?_
    refine c_frzD ?_
    refine c_elt (e1 := [o0, o1, o2, o3, .no, .no, .no]) rfl ?_
    exact rfl
  · exact rfl)
def m_w_written : MS := (mSeq (mSet 3 (mFrz (mLst (mCons (mFrz (mOp gMod (mName 0) (mOp gIx (mName 1) (mC (.int 1))))) (mCons (mFrz (mOp gMod (mOp gDiv (mName 0) (mOp gIx (mName 1) (mC (.int 1)))) (mOp gDiv (mOp gIx (mName 1) (mC (.int 0))) (mOp gIx (mName 1) (mC (.int 1)))))) (mCons (mFrz (mOp gDiv (mName 0) (mOp gIx (mName 1) (mC (.int 0))))) mNil))))))
    (mSeq (mSet 4 (mLc (mZipB (mCons (mFrz (mName 3)) (mCons (mFrz (mRevS (mName 2))) mNil))) (mgTup (mgCons (mgName 5) (mgCons (mgName 6) mgNil))) m_w_written_t2 m_w_written_e1 [5, 6]))
    (mRetW [0, 1, 2, 3, 4, 5, 6] (mIf (mTest (mOp (gEq true) (mName 4) (mLst mNil))) (mFrz (mBM "str" gJoin (mC (.str "")) (mCons (mRevL (mName 4)) mNil))) (mFrz (mOp gAdd (mC (.str "0")) (mOp gIx (mName 2) (mUn gNeg (mC (.int 1))))))))))
def fm_w_written : FM := fmOf 3 7 m_w_written
theorem ok_w_written (T : Tx w K mg fd) : FnOk P w K mg base CX0 1 (He.ga K "_law_written") (fd 12) ["_law_number_here", "_law_units", "_law_letters"] (spF K fm_w_written) :=
  fn_ok T.F_w_written sc_w_written fun cdv A outer s H E hr => (show VSs _ _ m_w_written from (vs_cons (vs_set (i := 3) sc_w_written.nd (ve_frz (ve_lst (va_cons (ve_frz (ve_op op_mod od_mod (ve_name 0) (ve_ix ix_seq od_ix (ve_name 1) ve_int (fun _ _ => rfl)))) (va_cons (ve_frz (ve_op op_mod od_mod (ve_op op_fdiv od_div (ve_name 0) (ve_ix ix_seq od_ix (ve_name 1) ve_int (fun _ _ => rfl))) (ve_op op_fdiv od_div (ve_ix ix_seq od_ix (ve_name 1) ve_int (fun _ _ => rfl)) (ve_ix ix_seq od_ix (ve_name 1) ve_int (fun _ _ => rfl))))) (va_cons (ve_frz (ve_op op_fdiv od_div (ve_name 0) (ve_ix ix_seq od_ix (ve_name 1) ve_int (fun _ _ => rfl)))) va_nil))))))
      (vs_cons (vs_setLc (i := 4) (own := [("_law_many", 5), ("_law_letter", 6)]) sc_w_written.nd (vi_zipB T.b_zip (va_cons (ve_frz (ve_name 3)) (va_cons (ve_frz (ve_revS (ve_name 2))) va_nil))) (blkOk_by (own := [("_law_many", 5), ("_law_letter", 6)]) (N := ["_law_number_here", "_law_units", "_law_letters", "_law_parts", "_law_words", "_law_many", "_law_letter"]) (sc := defScope s_w_written) (by decide +kernel)) (fun _ _ _ _ _ => (vg_tup (vgs_cons (vg_name (j := 5) sc_w_written.nd) (vgs_cons (vg_name (j := 6) sc_w_written.nd) vgs_nil)) (mgcons_len (mgcons_len mgnil_len)))) (fun _ _ _ _ _ => (vts_one (vt_cmp (or_ne hr.units) od_ne (ve_name 5) ve_int (nomark _)))) (fun _ _ _ _ _ => (ve_op or_add od_add (ve_callTy call_str_int cd_str (by rfl) T.b_str (by decide +kernel) (va_cons (ve_name 5) va_nil)) (ve_name 6))) (by decide) (sw_true rfl rfl rfl (by decide +kernel)))
      (vs_one (vs_retW (ve_if (vt_cmp (or_ne hr.units) od_ne (ve_name 4) (ve_lst va_nil) (nomark _)) (ve_frz (ve_bm PySem.F.plainAttrs_str PySem.F.slot_str_join PySem.F.type_str_join mt_join mtd_join ve_str (va_cons (ve_rev (ve_name 4)) va_nil))) (ve_frz (ve_op or_add od_add ve_str (ve_ix ix_seq od_ix (ve_name 2) (ve_un un_neg ud_neg ve_int) (fun _ _ => rfl))))))))))
def P_w_written (number : Int) (units : (Int × Int)) (letters : Str) : Option Str :=
  (pMod number units.2).bind fun t1 =>
  (pDiv number units.2).bind fun t2 =>
  (pDiv units.1 units.2).bind fun t3 =>
  (pMod t2 t3).bind fun t4 =>
  (pDiv number units.1).bind fun t5 =>
  (some [t1, t4, t5]).bind fun parts6 =>
  (pRevS letters).bind fun t7 =>
  (gd ((parts6.zip (signs t7)).length ≤ 100000)).bind fun _ =>
  (fmO (P_w_written_l3 ) (parts6.zip (signs t7))).bind fun l11 =>
  (pEq (eL eS) true l11 ([] : (List Str))).bind fun t12 =>
  if t12 = true then
    (pJoin ("" : Str) l11.reverse).bind fun t13 =>
    some t13
  else
    (pIxS letters (-1)).bind fun t14 =>
    (pCatS ("0" : Str) t14).bind fun t15 =>
    some t15
theorem q_w_written (number : Int) (units : (Int × Int)) (letters : Str) : fm_w_written [.val (eI number), .val ((eT2 eI eI) units), .val (eS letters)] = (P_w_written number units letters).map fun z => (.dat (eS z), [.no, .no, .no]) := by
  unfold fm_w_written m_w_written P_w_written
  refine c_fm (oR := fun z : Str => .dat (eS z)) (eR := fun z => [.no, .no, .no, .no, .no, .no, .no]) [.val (eI number), .val ((eT2 eI eI) units), .val (eS letters), .no, .no, .no, .no] rfl rfl ?_ (fun _ => rfl) (fun _ => by walk_at "ik") (fun _ => rfl)
  refine c_seq ?_
  refine c_set ?_
  refine c_frz ?_
  refine c_lst ?_
  refine c_cons ?_
  refine c_frz ?_
  refine c_op ?_
  refine c_nameV rfl ?_
  refine c_op ?_
  refine c_nameV rfl ?_
  refine c_c ?_
  refine c_opK rfl rfl ?_
  refine c_pur (x_ixT rfl) ?_
  refine c_opK rfl rfl ?_
  refine c_cal x_mod fun t1 => ?_
  refine c_frzD ?_
  refine c_cons ?_
  refine c_frz ?_
  refine c_op ?_
  refine c_op ?_
  refine c_nameV rfl ?_
  refine c_op ?_
  refine c_nameV rfl ?_
  refine c_c ?_
  refine c_opK rfl rfl ?_
  refine c_pur (x_ixT rfl) ?_
  refine c_opK rfl rfl ?_
  refine c_cal x_div fun t2 => ?_
  refine c_op ?_
  refine c_op ?_
  refine c_nameV rfl ?_
  refine c_c ?_
  refine c_opK rfl rfl ?_
  refine c_pur (x_ixT rfl) ?_
  refine c_op ?_
  refine c_nameV rfl ?_
  refine c_c ?_
  refine c_opK rfl rfl ?_
  refine c_pur (x_ixT rfl) ?_
  refine c_opK rfl rfl ?_
  refine c_cal x_div fun t3 => ?_
  refine c_opK rfl rfl ?_
  refine c_cal x_mod fun t4 => ?_
  refine c_frzD ?_
  refine c_cons ?_
  refine c_frz ?_
  refine c_op ?_
  refine c_nameV rfl ?_
  refine c_op ?_
  refine c_nameV rfl ?_
  refine c_c ?_
  refine c_opK rfl rfl ?_
  refine c_pur (x_ixT rfl) ?_
  refine c_opK rfl rfl ?_
  refine c_cal x_div fun t5 => ?_
  refine c_frzD ?_
  refine c_nil ?_
  refine c_lstK ([t1, t4, t5].map eI) rfl (Nat.le_of_ble_eq_true rfl) ?_
  refine c_frzN ?_
  refine c_setDL (τ := (List Int)) (eL eI) [t1, t4, t5] (fun parts6 => [.val (eI number), .val ((eT2 eI eI) units), .val (eS letters), .val ((eL eI) parts6), .no, .no, .no]) (fun _ => rfl) fun parts6 => ?_
  refine c_seqN ?_
  refine c_seq ?_
  refine c_set ?_
  refine c_lc ?_
  refine c_zipB ?_
  refine c_cons ?_
  refine c_frz ?_
  refine c_nameV rfl ?_
  refine c_frzD ?_
  refine c_cons ?_
  refine c_frz ?_
  refine c_revS ?_
  refine c_nameV rfl ?_
  refine c_revSK fun t7 => ?_
  refine c_frzD ?_
  refine c_nil ?_
  refine c_zipBT (l := parts6) (m := signs t7) (ea := eI) (eb := eS) rfl rfl rfl ?_
  refine c_lcK (xs := (parts6.zip (signs t7))) (ec := (eT2 eI eS)) (e1 := [.val (eI number), .val ((eT2 eI eI) units), .val (eS letters), .val ((eL eI) parts6), .no, .no, .no]) (by exact rfl) ?_
  refine c_cal2 (lc_fmO (s_w_written_l3 (.val (eI number)) (.val ((eT2 eI eI) units)) (.val (eS letters)) (.val ((eL eI) parts6))) _ []) fun l11 => ?_
  refine c_setN (e2 := [.val (eI number), .val ((eT2 eI eI) units), .val (eS letters), .val ((eL eI) parts6), .own (.lst (l11.map eS)), .no, .no]) rfl ?_
  refine c_seqN ?_
  refine c_ret ?_
  refine c_if ?_
  refine c_test ?_
  refine c_op ?_
  refine c_nameO rfl ?_
  refine c_lst ?_
  refine c_nil ?_
  refine c_lstK (([] : List Int).map eI) rfl (Nat.le_of_ble_eq_true rfl) ?_
  refine c_opK rfl rfl ?_
  refine c_cal (x_eqE (x := l11) (y := ([] : (List Str))) (eqE_list eqE_str) rfl) fun t12 => ?_
  refine c_testK ?_
  refine c_ite ?_ ?_
  · refine c_frz ?_
    refine c_bm ?_
    refine c_c ?_
    refine c_bmK _ rfl rfl ?_
    refine c_cons ?_
    refine c_revL ?_
    refine c_nameO rfl ?_
    refine c_revLK (l := l11) (ec := eS) rfl ?_
    refine c_nil ?_
    refine c_bmK2 _ _ rfl rfl ?_
    refine c_cal (x_join (l := l11.reverse)) fun t13 => ?_
    refine c_frzD ?_
    refine c_retK (.dat (eS t13)) rfl (e2 := [.no, .no, .no, .no, .no, .no, .no]) rfl ?_
    exact rfl
  · refine c_frz ?_
    refine c_op ?_
    refine c_c ?_
    refine c_op ?_
    refine c_nameV rfl ?_
    refine c_un ?_
    refine c_c ?_
    refine c_unK rfl ?_
    refine c_pur x_neg ?_
    refine c_opK rfl rfl ?_
    refine c_cal x_ixS fun t14 => ?_
    refine c_opK rfl rfl ?_
    refine c_cal x_catS fun t15 => ?_
    refine c_frzD ?_
    refine c_retK (.dat (eS t15)) rfl (e2 := [.no, .no, .no, .no, .no, .no, .no]) rfl ?_
    exact rfl
def m_w_same_e1 (fm : FM) : ME := (mCallF fm none (mCons (mName 2) (mCons (mName 3) mNil)))
def P_w_same_l2 (pf : PyData → PyData → Option Bool)  (y10 : (PyData × PyData)) : Option Bool :=
  (pf y10.1 y10.2).bind fun r11 =>
  some r11
theorem s_w_same_l2 (fm : FM) (pf : PyData → PyData → Option Bool) (hq : ∀ (found : PyData) (due : PyData), fm [.val (eD found), .val (eD due)] = (pf found due).map fun z => (.dat (eB z), [.no, .no])) (o0 : Slot) (o1 : Slot) (y10 : (PyData × PyData)) : lcStep (mgTup (mgCons (mgName 2) (mgCons (mgName 3) mgNil))) mYes (m_w_same_e1 fm) [2, 3] ((eT2 eD eD) y10) [o0, o1, .no, .no] = (P_w_same_l2 pf  y10).map fun z => (some (eB z), [o0, o1, .no, .no]) := c_stepM (α := Unit) (by
  unfold P_w_same_l2
  refine c_gtup ?_
  refine c_gcons ?_
  refine c_gname (e2 := [o0, o1, .val (eD y10.1), .no]) rfl ?_
  refine c_gcons ?_
  refine c_gname (e2 := [o0, o1, .val (eD y10.1), .val (eD y10.2)]) rfl ?_
  refine c_gnil ?_
  refine c_yes ?_
  refine c_iteT ?_
  refine c_bb ?_
  refine c_callF ?_
  refine c_cons ?_
  refine c_nameV rfl ?_
  refine c_cons ?_
  refine c_nameV rfl ?_
  refine c_nil ?_
  refine c_callK (bk := fun r11 => [o0, o1, .val (eD y10.1), .val (eD y10.2)]) rfl rfl (hq y10.1 y10.2) (fun _ => by walk_at "fl") (fun _ => rfl) fun r11 => ?_
  refine c_frzD ?_
  refine c_elt (e1 := [o0, o1, .no, .no]) rfl ?_
  exact rfl)
def m_w_same (fm : FM) : MS := (mSeq (mIfS (mTest (mIsi2 "list" "tuple" (mName 1))) (mSeq (mIfS (mOr (mTest (mOp (gEq true) (mIsi "list" (mName 0)) (mIsi "list" (mName 1)))) (mTest (mOp (gEq true) (mIsi "tuple" (mName 0)) (mIsi "tuple" (mName 1))))) (mRetW [0, 1, 2, 3] (mC (.bool false))) mSkip)
    (mRetW [0, 1, 2, 3] (mAndV (mOp (gEq false) (mCB gLen (mCons (mName 0) mNil)) (mCB gLen (mCons (mName 1) mNil))) (mCB gAll (mCons (mLc (mZipA (mCons (mFrz (mName 0)) (mCons (mFrz (mName 1)) mNil))) (mgTup (mgCons (mgName 2) (mgCons (mgName 3) mgNil))) mYes (m_w_same_e1 fm) [2, 3]) mNil))))) mSkip)
    (mSeq (mIfS (mOr (mTest (mOp (gIsN false) (mName 1) (mC .none))) (mTest (mOp (gIsN false) (mName 0) (mC .none)))) (mRetW [0, 1, 2, 3] (mAndV (mOp (gIsN false) (mName 1) (mC .none)) (mOp (gIsN false) (mName 0) (mC .none)))) mSkip)
    (mSeq (mIfS (mOr (mTest (mIsi "bool" (mName 1))) (mTest (mIsi "str" (mName 1)))) (mRetW [0, 1, 2, 3] (mAndV (mOp (gEq false) (mIsi "bool" (mName 0)) (mIsi "bool" (mName 1))) (mOp (gEq false) (mName 0) (mName 1)))) mSkip)
    (mRetW [0, 1, 2, 3] (mAndV (mIsi "int" (mName 0)) (mAndV (mNotV (mIsi "bool" (mName 0))) (mOp (gEq false) (mName 0) (mName 1))))))))
def fm_w_same : Nat → FM
  | 0 => fun _ => none
  | n + 1 => fmOf 2 4 (m_w_same (fm_w_same n))
theorem ok_w_same (T : Tx w K mg fd) : ∀ n : Nat, FnOk P w K mg base CX0 (n + 1) (He.ga K "_law_same") (fd 13) ["_law_found", "_law_due"] (spF K (fm_w_same n))
  | 0 => ok_no
  | n + 1 => (FnOk.mono (fn_ok (k := n + 1) T.F_w_same sc_w_same fun cdv A outer s H E hr => (show VSs _ _ (m_w_same (fm_w_same n)) from (vs_cons (vs_if (vt_val (ve_isi2 (ve_name 1) T.b_isinstance T.b_list (by decide +kernel) T.b_tuple (by decide +kernel))) (vs_cons (vs_if (vt_w (vw_or (vt_cmp (or_ne hr.units) od_ne (ve_isi (ve_name 0) T.b_isinstance T.b_list (by decide +kernel)) (ve_isi (ve_name 1) T.b_isinstance T.b_list (by decide +kernel)) (nomark _)) (vw_or1 (vt_cmp (or_ne hr.units) od_ne (ve_isi (ve_name 0) T.b_isinstance T.b_tuple (by decide +kernel)) (ve_isi (ve_name 1) T.b_isinstance T.b_tuple (by decide +kernel)) (nomark _))))) (vs_one (vs_retW ve_bl)) vs_nil)
      (vs_one (vs_retW (ve_and (ve_cmp (or_eq hr.units) od_eq (ve_callB call_len cd_len (by rfl) T.b_len PySem.boot_len (va_cons (ve_name 0) va_nil)) (ve_callB call_len cd_len (by rfl) T.b_len PySem.boot_len (va_cons (ve_name 1) va_nil)) (nomark _)) (ve_one (ve_callB (cr_all rfl) cd_all (by rfl) T.b_all (by decide +kernel) (va_cons (ve_lc (own := [("_law_one", 2), ("_law_other", 3)]) sc_w_same.nd (vi_zipA T.b_zip (va_cons (ve_frz (ve_name 0)) (va_cons (ve_frz (ve_name 1)) va_nil))) (blkOk_by (own := [("_law_one", 2), ("_law_other", 3)]) (N := ["_law_found", "_law_due", "_law_one", "_law_other"]) (sc := defScope s_w_same) (by decide +kernel)) (fun _ _ _ _ _ => (vg_tup (vgs_cons (vg_name (j := 2) sc_w_same.nd) (vgs_cons (vg_name (j := 3) sc_w_same.nd) vgs_nil)) (mgcons_len (mgcons_len mgnil_len)))) (fun _ _ _ _ _ => vts_nil) (fun _ _ _ _ _ => (ve_callF none (ok_w_same T n) hr T.g_w_same T.F_w_same.kp (bi_w_same T) (va_cons (ve_name 2) (va_cons (ve_name 3) va_nil)))) (by decide)) va_nil))))))) vs_nil)
      (vs_cons (vs_if (vt_w (vw_or (vt_cmp op_isN od_isN (ve_name 1) ve_non (nomark _)) (vw_or1 (vt_cmp op_isN od_isN (ve_name 0) ve_non (nomark _))))) (vs_one (vs_retW (ve_and (ve_cmp op_isN od_isN (ve_name 1) ve_non (nomark _)) (ve_one (ve_cmp op_isN od_isN (ve_name 0) ve_non (nomark _)))))) vs_nil)
      (vs_cons (vs_if (vt_w (vw_or (vt_val (ve_isi (ve_name 1) T.b_isinstance T.b_bool (by decide +kernel))) (vw_or1 (vt_val (ve_isi (ve_name 1) T.b_isinstance T.b_str (by decide +kernel)))))) (vs_one (vs_retW (ve_and (ve_cmp (or_eq hr.units) od_eq (ve_isi (ve_name 0) T.b_isinstance T.b_bool (by decide +kernel)) (ve_isi (ve_name 1) T.b_isinstance T.b_bool (by decide +kernel)) (nomark _)) (ve_one (ve_cmp (or_eq hr.units) od_eq (ve_name 0) (ve_name 1) (nomark _)))))) vs_nil)
      (vs_one (vs_retW (ve_and (ve_isi (ve_name 0) T.b_isinstance T.b_int (by decide +kernel)) (ve_and (ve_not (ve_isi (ve_name 0) T.b_isinstance T.b_bool (by decide +kernel))) (ve_one (ve_cmp (or_eq hr.units) od_eq (ve_name 0) (ve_name 1) (nomark _)))))))))))) (by omega))
def P_w_same_0 (pf : PyData → PyData → Option Bool) (found : PyData) (due : PyData) : Option Bool :=
  (pIsi2 "list" "tuple" due).bind fun t1 =>
  if t1 = true then
    (pIsi "list" found).bind fun t2 =>
    (pIsi "list" due).bind fun t3 =>
    (if (!decide (t2 = t3)) = true then
      some true
    else
      (pIsi "tuple" found).bind fun t4 =>
      (pIsi "tuple" due).bind fun t5 =>
      some (!decide (t4 = t5))).bind fun z6 =>
    if z6 = true then
      some false
    else
      (pLenD found).bind fun t7 =>
      (pLenD due).bind fun t8 =>
      (if decide (t7 = t8) = true then
        (pZipA found due).bind fun l9 =>
        (gd (l9.length ≤ 100000)).bind fun _ =>
        (mapO (P_w_same_l2 pf ) l9).bind fun l12 =>
        some (l12.all id)
      else
        some false).bind fun z13 =>
      some z13
  else
    if ((pIsN false due) || (pIsN false found)) = true then
      some ((pIsN false due) && (pIsN false found))
    else
      (pIsi "bool" due).bind fun t14 =>
      (if t14 = true then
        some true
      else
        (pIsi "str" due).bind fun t15 =>
        some t15).bind fun z16 =>
      if z16 = true then
        (pIsi "bool" found).bind fun t17 =>
        (pIsi "bool" due).bind fun t18 =>
        (if decide (t17 = t18) = true then
          (pEqD false found due).bind fun t19 =>
          some t19
        else
          some false).bind fun z20 =>
        some z20
      else
        (pIsi "int" found).bind fun t21 =>
        (if t21 = true then
          (pIsi "bool" found).bind fun t22 =>
          (if (!t22) = true then
            (pEqD false found due).bind fun t23 =>
            some t23
          else
            some false).bind fun z24 =>
          some z24
        else
          some false).bind fun z25 =>
        some z25
def P_w_same : Nat → PyData → PyData → Option Bool
  | 0 => fun _ _ => none
  | n + 1 => P_w_same_0 (P_w_same n)
theorem q_w_same_0 (fm : FM) (pf : PyData → PyData → Option Bool) (hq : ∀ (found : PyData) (due : PyData), fm [.val (eD found), .val (eD due)] = (pf found due).map fun z => (.dat (eB z), [.no, .no])) (found : PyData) (due : PyData) : fmOf 2 4 (m_w_same fm) [.val (eD found), .val (eD due)] = (P_w_same_0 pf found due).map fun z => (.dat (eB z), [.no, .no]) := by
  unfold m_w_same P_w_same_0
  refine c_fm (oR := fun z : Bool => .dat (eB z)) (eR := fun z => [.no, .no, .no, .no]) [.val (eD found), .val (eD due), .no, .no] rfl rfl ?_ (fun _ => rfl) (fun _ => by walk_at "ik") (fun _ => rfl)
  refine c_seq ?_
  refine c_ifS ?_
  refine c_test ?_
  refine c_isi2 ?_
  refine c_nameV rfl ?_
  refine c_isi2K rfl fun t1 => ?_
  refine c_testK ?_
  refine c_ite ?_ ?_
  · refine c_seq ?_
    refine c_ifS ?_
    refine c_orB ?_
    refine c_test ?_
    refine c_op ?_
    refine c_isi ?_
    refine c_nameV rfl ?_
    refine c_isiK rfl fun t2 => ?_
    refine c_isi ?_
    refine c_nameV rfl ?_
    refine c_isiK rfl fun t3 => ?_
    refine c_opK rfl rfl ?_
    refine c_pur x_eqB1 ?_
    refine c_testK ?_
    refine c_ifJ (fun z6 => (z6, [.val (eD found), .val (eD due), .no, .no])) ?_ ?_ fun z6 => ?_
    · exact rfl
    · refine c_test ?_
      refine c_op ?_
      refine c_isi ?_
      refine c_nameV rfl ?_
      refine c_isiK rfl fun t4 => ?_
      refine c_isi ?_
      refine c_nameV rfl ?_
      refine c_isiK rfl fun t5 => ?_
      refine c_opK rfl rfl ?_
      refine c_pur x_eqB1 ?_
      refine c_testK ?_
      exact rfl
    refine c_ite ?_ ?_
    · refine c_ret ?_
      refine c_c ?_
      refine c_retK (.dat (eB false)) rfl (e2 := [.no, .no, .no, .no]) rfl ?_
      refine c_seqR ?_
      refine c_seqR ?_
      exact rfl
    · refine c_skip ?_
      refine c_seqN ?_
      refine c_ret ?_
      refine c_andV ?_
      refine c_op ?_
      refine c_cb ?_
      refine c_cons ?_
      refine c_nameV rfl ?_
      refine c_nil ?_
      refine c_cbK _ rfl ?_
      refine c_cal x_lenD fun t7 => ?_
      refine c_cb ?_
      refine c_cons ?_
      refine c_nameV rfl ?_
      refine c_nil ?_
      refine c_cbK _ rfl ?_
      refine c_cal x_lenD fun t8 => ?_
      refine c_opK rfl rfl ?_
      refine c_pur x_eqI0 ?_
      refine c_boolK ?_
      refine c_ifJ (fun z13 => (.dat (.bool z13), [.val (eD found), .val (eD due), .no, .no])) ?_ ?_ fun z13 => ?_
      · refine c_cb ?_
        refine c_cons ?_
        refine c_lc ?_
        refine c_zipA ?_
        refine c_cons ?_
        refine c_frz ?_
        refine c_nameV rfl ?_
        refine c_frzD ?_
        refine c_cons ?_
        refine c_frz ?_
        refine c_nameV rfl ?_
        refine c_frzD ?_
        refine c_nil ?_
        refine c_zipAK rfl fun l9 => ?_
        refine c_lcK (xs := l9) (ec := (eT2 eD eD)) (e1 := [.val (eD found), .val (eD due), .no, .no]) (by exact rfl) ?_
        refine c_cal2 (lc_mapO (s_w_same_l2 fm pf hq (.val (eD found)) (.val (eD due))) _) fun l12 => ?_
        refine c_nil ?_
        refine c_cbK _ rfl ?_
        refine c_pur (x_all (l := l12)) ?_
        exact rfl
      · exact rfl
      refine c_retK (.dat (eB z13)) rfl (e2 := [.no, .no, .no, .no]) rfl ?_
      refine c_seqR ?_
      exact rfl
  · refine c_skip ?_
    refine c_seqN ?_
    refine c_seq ?_
    refine c_ifS ?_
    refine c_orP (c_tot (by refine c_test ?_; refine c_op ?_; refine c_nameV rfl ?_; refine c_c ?_; refine c_opK rfl rfl ?_; refine c_pur x_isND ?_; refine c_testK ?_; exact rfl)) (c_tot (by refine c_test ?_; refine c_op ?_; refine c_nameV rfl ?_; refine c_c ?_; refine c_opK rfl rfl ?_; refine c_pur x_isND ?_; refine c_testK ?_; exact rfl)) ?_
    refine c_ite ?_ ?_
    · refine c_ret ?_
      refine c_andVP (c_tot (by refine c_op ?_; refine c_nameV rfl ?_; refine c_c ?_; refine c_opK rfl rfl ?_; refine c_pur x_isND ?_; exact rfl)) (c_tot (by refine c_op ?_; refine c_nameV rfl ?_; refine c_c ?_; refine c_opK rfl rfl ?_; refine c_pur x_isND ?_; exact rfl)) ?_
      refine c_retK (.dat (eB ((pIsN false due) && (pIsN false found)))) rfl (e2 := [.no, .no, .no, .no]) rfl ?_
      refine c_seqR ?_
      exact rfl
    · refine c_skip ?_
      refine c_seqN ?_
      refine c_seq ?_
      refine c_ifS ?_
      refine c_orB ?_
      refine c_test ?_
      refine c_isi ?_
      refine c_nameV rfl ?_
      refine c_isiK rfl fun t14 => ?_
      refine c_testK ?_
      refine c_ifJ (fun z16 => (z16, [.val (eD found), .val (eD due), .no, .no])) ?_ ?_ fun z16 => ?_
      · exact rfl
      · refine c_test ?_
        refine c_isi ?_
        refine c_nameV rfl ?_
        refine c_isiK rfl fun t15 => ?_
        refine c_testK ?_
        exact rfl
      refine c_ite ?_ ?_
      · refine c_ret ?_
        refine c_andV ?_
        refine c_op ?_
        refine c_isi ?_
        refine c_nameV rfl ?_
        refine c_isiK rfl fun t17 => ?_
        refine c_isi ?_
        refine c_nameV rfl ?_
        refine c_isiK rfl fun t18 => ?_
        refine c_opK rfl rfl ?_
        refine c_pur x_eqB0 ?_
        refine c_boolK ?_
        refine c_ifJ (fun z20 => (.dat (.bool z20), [.val (eD found), .val (eD due), .no, .no])) ?_ ?_ fun z20 => ?_
        · refine c_op ?_
          refine c_nameV rfl ?_
          refine c_nameV rfl ?_
          refine c_opK rfl rfl ?_
          refine c_cal x_eqD fun t19 => ?_
          exact rfl
        · exact rfl
        refine c_retK (.dat (eB z20)) rfl (e2 := [.no, .no, .no, .no]) rfl ?_
        refine c_seqR ?_
        exact rfl
      · refine c_skip ?_
        refine c_seqN ?_
        refine c_ret ?_
        refine c_andV ?_
        refine c_isi ?_
        refine c_nameV rfl ?_
        refine c_isiK rfl fun t21 => ?_
        refine c_boolK ?_
        refine c_ifJ (fun z25 => (.dat (.bool z25), [.val (eD found), .val (eD due), .no, .no])) ?_ ?_ fun z25 => ?_
        · refine c_andV ?_
          refine c_notV ?_
          refine c_isi ?_
          refine c_nameV rfl ?_
          refine c_isiK rfl fun t22 => ?_
          refine c_boolK ?_
          refine c_boolK ?_
          refine c_ifJ (fun z24 => (.dat (.bool z24), [.val (eD found), .val (eD due), .no, .no])) ?_ ?_ fun z24 => ?_
          · refine c_op ?_
            refine c_nameV rfl ?_
            refine c_nameV rfl ?_
            refine c_opK rfl rfl ?_
            refine c_cal x_eqD fun t23 => ?_
            exact rfl
          · exact rfl
          exact rfl
        · exact rfl
        refine c_retK (.dat (eB z25)) rfl (e2 := [.no, .no, .no, .no]) rfl ?_
        exact rfl
theorem q_w_same : ∀ (n : Nat) (found : PyData) (due : PyData), fm_w_same n [.val (eD found), .val (eD due)] = (P_w_same n found due).map fun z => (.dat (eB z), [.no, .no])
  | 0, _, _ => rfl
  | n + 1, found, due => q_w_same_0 (fm_w_same n) (P_w_same n) (fun found due => q_w_same n found due) found due
def m_w_right_b1 : MS := (mAft [5, 6] (mSeq (mIfS (mNot (mTest (mCallF (fm_w_same 6) none (mCons (mLst (mCons (mFrz (mCallF fm_weight_text none (mCons (mName 2) mNil))) (mCons (mFrz (mCallF fm_length_text none (mCons (mName 3) mNil))) mNil))) (mCons (mName 4) mNil))))) (mRetW [1, 2, 3, 4, 5, 6] (mC (.bool false))) mSkip)
    (mSeq (mSet 6 (mFrz (mLst (mCons (mFrz (mIf (mTest (mOp (gCmp fun i j => decide (i < j)) (mName 2) (mOp gMul (mC (.int 112)) (mOp gPow (mC (.int 10)) (mC (.int 9)))))) (mName 2) (mC .none))) (mCons (mFrz (mIf (mTest (mOp (gCmp fun i j => decide (i < j)) (mName 3) (mOp gMul (mC (.int 320)) (mOp gPow (mC (.int 10)) (mC (.int 9)))))) (mName 3) (mC .none))) mNil)))))
    (mIfS (mNot (mTest (mCallF (fm_w_same 6) none (mCons (mLst (mCons (mFrz (mCallF fm_weight_in none (mCons (mOp gIx (mName 4) (mC (.int 0))) mNil))) (mCons (mFrz (mCallF fm_length_in none (mCons (mOp gIx (mName 4) (mC (.int 1))) mNil))) mNil))) (mCons (mName 6) mNil))))) (mRetW [1, 2, 3, 4, 5, 6] (mC (.bool false))) mSkip))))
def P_w_right_b2 (box : (List Int)) (one : Int) (other : Int) (due : (List Str)) (xx : Int) (ss : Unit) : Option (Fw (Bool × (List Int)) Unit) :=
  (P_weight_text one).bind fun r8 =>
  (P_length_text other).bind fun r9 =>
  (P_w_same 6 ((eL eS) [r8, r9]) ((eL eS) due)).bind fun r10 =>
  if (!r10) = true then
    some (.rt (false, box))
  else
    (some [(if decide (one < (112 * 1000000000)) = true then (some one) else (none : (Option Int))), (if decide (other < (320 * 1000000000)) = true then (some other) else (none : (Option Int)))]).bind fun read11 =>
    (pIx due 0).bind fun t12 =>
    (P_weight_in t12).bind fun r13 =>
    (pIx due 1).bind fun t14 =>
    (P_length_in t14).bind fun r15 =>
    (P_w_same 6 ((eL (eO eI)) [r13, r15]) ((eL (eO eI)) read11)).bind fun r16 =>
    if (!r16) = true then
      some (.rt (false, box))
    else
      some (.nx ())
theorem s_w_right_b2 (box : (List Int)) (o1 : Slot) (one : Int) (other : Int) (due : (List Str)) (xx : Int) (ss : Unit) : ((mgName 5) (eI xx) [.io 0 (.lst (box.map eI)), o1, .val (eI one), .val (eI other), .val ((eL eS) due), .no, .no]).bind m_w_right_b1 = (P_w_right_b2 box one other due xx ss).map (outB (fun z : (Bool × (List Int)) => .dat (eB z.1)) (fun z => [.io 0 (.lst (z.2.map eI)), .no, .no, .no, .no, .no, .no]) (fun ss : Unit => [.io 0 (.lst (box.map eI)), o1, .val (eI one), .val (eI other), .val ((eL eS) due), .no, .no])) := c_body (by
  unfold P_w_right_b2 m_w_right_b1
  refine c_gname (e2 := [.io 0 (.lst (box.map eI)), o1, .val (eI one), .val (eI other), .val ((eL eS) due), .val (eI xx), .no]) rfl ?_
  refine c_aft ?_
  refine c_seq ?_
  refine c_ifS ?_
  refine c_notB ?_
  refine c_test ?_
  refine c_callF ?_
  refine c_cons ?_
  refine c_lst ?_
  refine c_cons ?_
  refine c_frz ?_
  refine c_callF ?_
  refine c_cons ?_
  refine c_nameV rfl ?_
  refine c_nil ?_
  refine c_callK (bk := fun r8 => [.io 0 (.lst (box.map eI)), o1, .val (eI one), .val (eI other), .val ((eL eS) due), .val (eI xx), .no]) rfl rfl (q_weight_text one) (fun _ => by walk_at "fl") (fun _ => rfl) fun r8 => ?_
  refine c_frzD ?_
  refine c_cons ?_
  refine c_frz ?_
  refine c_callF ?_
  refine c_cons ?_
  refine c_nameV rfl ?_
  refine c_nil ?_
  refine c_callK (bk := fun r9 => [.io 0 (.lst (box.map eI)), o1, .val (eI one), .val (eI other), .val ((eL eS) due), .val (eI xx), .no]) rfl rfl (q_length_text other) (fun _ => by walk_at "fl") (fun _ => rfl) fun r9 => ?_
  refine c_frzD ?_
  refine c_nil ?_
  refine c_lstK ([r8, r9].map eS) rfl (Nat.le_of_ble_eq_true rfl) ?_
  refine c_cons ?_
  refine c_nameV rfl ?_
  refine c_nil ?_
  refine c_callK (bk := fun r10 => [.io 0 (.lst (box.map eI)), o1, .val (eI one), .val (eI other), .val ((eL eS) due), .val (eI xx), .no]) rfl rfl (q_w_same 6 ((eL eS) [r8, r9]) ((eL eS) due)) (fun _ => by walk_at "fl") (fun _ => rfl) fun r10 => ?_
  refine c_testK ?_
  refine c_ite ?_ ?_
  · refine c_ret ?_
    refine c_c ?_
    refine c_retK (.dat (eB false)) rfl (e2 := [.io 0 (.lst (box.map eI)), .no, .no, .no, .no, .no, .no]) rfl ?_
    refine c_seqR ?_
    refine c_aftR ?_
    exact rfl
  · refine c_skip ?_
    refine c_seqN ?_
    refine c_seq ?_
    refine c_set ?_
    refine c_frz ?_
    refine c_lst ?_
    refine c_cons ?_
    refine c_frz ?_
    refine c_ifP (τ := (Option Int)) (f := fun w => .dat ((eO eI) w)) (x := (some one)) (y := (none : (Option Int))) (c_tot (by refine c_test ?_; refine c_op ?_; refine c_nameV rfl ?_; refine c_op ?_; refine c_c ?_; refine c_op ?_; refine c_c ?_; refine c_c ?_; refine c_opK rfl rfl ?_; refine c_pur (v := .dat (.int 1000000000)) rfl ?_; refine c_opK rfl rfl ?_; refine c_pur (x_mulL (by decide)) ?_; refine c_opK rfl rfl ?_; refine c_pur x_cmp ?_; refine c_testK ?_; exact rfl)) (c_tot (by refine c_nameV rfl ?_; exact rfl)) (c_tot (by refine c_c ?_; exact rfl)) ?_
    refine c_frzD ?_
    refine c_cons ?_
    refine c_frz ?_
    refine c_ifP (τ := (Option Int)) (f := fun w => .dat ((eO eI) w)) (x := (some other)) (y := (none : (Option Int))) (c_tot (by refine c_test ?_; refine c_op ?_; refine c_nameV rfl ?_; refine c_op ?_; refine c_c ?_; refine c_op ?_; refine c_c ?_; refine c_c ?_; refine c_opK rfl rfl ?_; refine c_pur (v := .dat (.int 1000000000)) rfl ?_; refine c_opK rfl rfl ?_; refine c_pur (x_mulL (by decide)) ?_; refine c_opK rfl rfl ?_; refine c_pur x_cmp ?_; refine c_testK ?_; exact rfl)) (c_tot (by refine c_nameV rfl ?_; exact rfl)) (c_tot (by refine c_c ?_; exact rfl)) ?_
    refine c_frzD ?_
    refine c_nil ?_
    refine c_lstK ([(if decide (one < (112 * 1000000000)) = true then (some one) else (none : (Option Int))), (if decide (other < (320 * 1000000000)) = true then (some other) else (none : (Option Int)))].map (eO eI)) rfl (Nat.le_of_ble_eq_true rfl) ?_
    refine c_frzN ?_
    refine c_setDL (τ := (List (Option Int))) (eL (eO eI)) [(if decide (one < (112 * 1000000000)) = true then (some one) else (none : (Option Int))), (if decide (other < (320 * 1000000000)) = true then (some other) else (none : (Option Int)))] (fun read11 => [.io 0 (.lst (box.map eI)), o1, .val (eI one), .val (eI other), .val ((eL eS) due), .val (eI xx), .val ((eL (eO eI)) read11)]) (fun _ => rfl) fun read11 => ?_
    refine c_seqN ?_
    refine c_ifS ?_
    refine c_notB ?_
    refine c_test ?_
    refine c_callF ?_
    refine c_cons ?_
    refine c_lst ?_
    refine c_cons ?_
    refine c_frz ?_
    refine c_callF ?_
    refine c_cons ?_
    refine c_op ?_
    refine c_nameV rfl ?_
    refine c_c ?_
    refine c_opK rfl rfl ?_
    refine c_cal (x_ix (e := eS) (l := due)) fun t12 => ?_
    refine c_nil ?_
    refine c_callK (bk := fun r13 => [.io 0 (.lst (box.map eI)), o1, .val (eI one), .val (eI other), .val ((eL eS) due), .val (eI xx), .val ((eL (eO eI)) read11)]) rfl rfl (q_weight_in t12) (fun _ => by walk_at "fl") (fun _ => rfl) fun r13 => ?_
    refine c_frzD ?_
    refine c_cons ?_
    refine c_frz ?_
    refine c_callF ?_
    refine c_cons ?_
    refine c_op ?_
    refine c_nameV rfl ?_
    refine c_c ?_
    refine c_opK rfl rfl ?_
    refine c_cal (x_ix (e := eS) (l := due)) fun t14 => ?_
    refine c_nil ?_
    refine c_callK (bk := fun r15 => [.io 0 (.lst (box.map eI)), o1, .val (eI one), .val (eI other), .val ((eL eS) due), .val (eI xx), .val ((eL (eO eI)) read11)]) rfl rfl (q_length_in t14) (fun _ => by walk_at "fl") (fun _ => rfl) fun r15 => ?_
    refine c_frzD ?_
    refine c_nil ?_
    refine c_lstK ([r13, r15].map (eO eI)) rfl (Nat.le_of_ble_eq_true rfl) ?_
    refine c_cons ?_
    refine c_nameV rfl ?_
    refine c_nil ?_
    refine c_callK (bk := fun r16 => [.io 0 (.lst (box.map eI)), o1, .val (eI one), .val (eI other), .val ((eL eS) due), .val (eI xx), .val ((eL (eO eI)) read11)]) rfl rfl (q_w_same 6 ((eL (eO eI)) [r13, r15]) ((eL (eO eI)) read11)) (fun _ => by walk_at "fl") (fun _ => rfl) fun r16 => ?_
    refine c_testK ?_
    refine c_ite ?_ ?_
    · refine c_ret ?_
      refine c_c ?_
      refine c_retK (.dat (eB false)) rfl (e2 := [.io 0 (.lst (box.map eI)), .no, .no, .no, .no, .no, .no]) rfl ?_
      refine c_aftR ?_
      exact rfl
    · refine c_skip ?_
      refine c_aftN (e2 := [.io 0 (.lst (box.map eI)), o1, .val (eI one), .val (eI other), .val ((eL eS) due), .no, .no]) rfl ?_
      exact rfl)
def m_w_right_b3 : MS := (mAft [1, 2, 3, 4, 5, 6] (mSeq (mPutU [2, 3] (mConsU (mFrz (mCallF fm_w_number (some 0) (mCons (mName 0) (mCons (mTup (mCons (mFrz (mC (.int 112))) (mCons (mFrz (mC (.int 14))) mNil))) mNil)))) (mConsU (mFrz (mCallF fm_w_number (some 0) (mCons (mName 0) (mCons (mTup (mCons (mFrz (mC (.int 320))) (mCons (mFrz (mC (.int 40))) mNil))) mNil)))) mNil)))
    (mSeq (mSet 4 (mFrz (mLst (mCons (mFrz (mCallF fm_w_written none (mCons (mName 2) (mCons (mTup (mCons (mFrz (mC (.int 112))) (mCons (mFrz (mC (.int 14))) mNil))) (mCons (mC (.str "csp")) mNil))))) (mCons (mFrz (mCallF fm_w_written none (mCons (mName 3) (mCons (mTup (mCons (mFrz (mC (.int 320))) (mCons (mFrz (mC (.int 40))) mNil))) (mCons (mC (.str "mfr")) mNil))))) mNil)))))
    (mSeq (mBef [5, 6] (mFor (mRange1 (mCons (mC (.int 2)) mNil)) (mgName 5) m_w_right_b1))
    (mIfS (mOr (mAnd (mTest (mOp (gCmp fun i j => decide (j < i)) (mName 2) (mC (.int 0)))) (mTest (mOp (gEq false) (mCallF fm_weight_text none (mCons (mOp gMinus (mName 2) (mC (.int 1))) mNil)) (mOp gIx (mName 4) (mC (.int 0)))))) (mAnd (mTest (mOp (gCmp fun i j => decide (j < i)) (mName 3) (mC (.int 0)))) (mTest (mOp (gEq false) (mCallF fm_length_text none (mCons (mOp gMinus (mName 3) (mC (.int 1))) mNil)) (mOp gIx (mName 4) (mC (.int 1))))))) (mRetW [1, 2, 3, 4, 5, 6] (mC (.bool false))) mSkip)))))
def P_w_right_b4  (xx : Int) (ss : (List Int)) : Option (Fw (Bool × (List Int)) (List Int)) :=
  (P_w_number ss (112, 14)).bind fun r2 =>
  (P_w_number r2.2 (320, 40)).bind fun r3 =>
  (P_w_written r2.1 (112, 14) ("csp" : Str)).bind fun r4 =>
  (P_w_written r3.1 (320, 40) ("mfr" : Str)).bind fun r5 =>
  (some [r4, r5]).bind fun due6 =>
  (pRng 2).bind fun l7 =>
  (forR (P_w_right_b2 r3.2 r2.1 r3.1 due6) l7 ()).bind fun w18 => w18.on (fun z => some (.rt z)) fun s17 =>
    (if decide (0 < r2.1) = true then
      (P_weight_text (r2.1 - 1)).bind fun r19 =>
      (pIx due6 0).bind fun t20 =>
      some (decide (r19 = t20))
    else
      some false).bind fun z21 =>
    (if z21 = true then
      some true
    else
      (if decide (0 < r3.1) = true then
        (P_length_text (r3.1 - 1)).bind fun r22 =>
        (pIx due6 1).bind fun t23 =>
        some (decide (r22 = t23))
      else
        some false).bind fun z24 =>
      some z24).bind fun z25 =>
    if z25 = true then
      some (.rt (false, r3.2))
    else
      some (.nx r3.2)
theorem s_w_right_b4  (xx : Int) (ss : (List Int)) : ((mgName 1) (eI xx) [.io 0 (.lst (ss.map eI)), .no, .no, .no, .no, .no, .no]).bind m_w_right_b3 = (P_w_right_b4  xx ss).map (outB (fun z : (Bool × (List Int)) => .dat (eB z.1)) (fun z => [.io 0 (.lst (z.2.map eI)), .no, .no, .no, .no, .no, .no]) (fun ss : (List Int) => [.io 0 (.lst (ss.map eI)), .no, .no, .no, .no, .no, .no])) := c_body (by
  unfold P_w_right_b4 m_w_right_b3
  refine c_gname (e2 := [.io 0 (.lst (ss.map eI)), .val (eI xx), .no, .no, .no, .no, .no]) rfl ?_
  refine c_aft ?_
  refine c_seq ?_
  refine c_putU ?_
  refine c_consU ?_
  refine c_frz ?_
  refine c_callF ?_
  refine c_cons ?_
  refine c_nameI rfl ?_
  refine c_cons ?_
  refine c_tup ?_
  refine c_cons ?_
  refine c_frz ?_
  refine c_c ?_
  refine c_frzD ?_
  refine c_cons ?_
  refine c_frz ?_
  refine c_c ?_
  refine c_frzD ?_
  refine c_nil ?_
  refine c_tupK _ rfl (Nat.le_of_ble_eq_true rfl) ?_
  refine c_nil ?_
  refine c_callK (bk := fun r2 => [.io 0 (.lst (r2.2.map eI)), .val (eI xx), .no, .no, .no, .no, .no]) rfl rfl (q_w_number ss (112, 14)) (fun _ => by walk_at "fl") (fun _ => rfl) fun r2 => ?_
  refine c_frzD ?_
  refine c_frzSD ?_
  refine c_consU ?_
  refine c_frz ?_
  refine c_callF ?_
  refine c_cons ?_
  refine c_nameI rfl ?_
  refine c_cons ?_
  refine c_tup ?_
  refine c_cons ?_
  refine c_frz ?_
  refine c_c ?_
  refine c_frzD ?_
  refine c_cons ?_
  refine c_frz ?_
  refine c_c ?_
  refine c_frzD ?_
  refine c_nil ?_
  refine c_tupK _ rfl (Nat.le_of_ble_eq_true rfl) ?_
  refine c_nil ?_
  refine c_callK (bk := fun r3 => [.io 0 (.lst (r3.2.map eI)), .val (eI xx), .no, .no, .no, .no, .no]) rfl rfl (q_w_number r2.2 (320, 40)) (fun _ => by walk_at "fl") (fun _ => rfl) fun r3 => ?_
  refine c_frzD ?_
  refine c_frzSD ?_
  refine c_nil ?_
  refine c_putUK [.io 0 (.lst (r3.2.map eI)), .val (eI xx), .val (eI r2.1), .val (eI r3.1), .no, .no, .no] rfl ?_
  refine c_seqN ?_
  refine c_seq ?_
  refine c_set ?_
  refine c_frz ?_
  refine c_lst ?_
  refine c_cons ?_
  refine c_frz ?_
  refine c_callF ?_
  refine c_cons ?_
  refine c_nameV rfl ?_
  refine c_cons ?_
  refine c_tup ?_
  refine c_cons ?_
  refine c_frz ?_
  refine c_c ?_
  refine c_frzD ?_
  refine c_cons ?_
  refine c_frz ?_
  refine c_c ?_
  refine c_frzD ?_
  refine c_nil ?_
  refine c_tupK _ rfl (Nat.le_of_ble_eq_true rfl) ?_
  refine c_cons ?_
  refine c_c ?_
  refine c_nil ?_
  refine c_callK (bk := fun r4 => [.io 0 (.lst (r3.2.map eI)), .val (eI xx), .val (eI r2.1), .val (eI r3.1), .no, .no, .no]) rfl rfl (q_w_written r2.1 (112, 14) ("csp" : Str)) (fun _ => by walk_at "fl") (fun _ => rfl) fun r4 => ?_
  refine c_frzD ?_
  refine c_cons ?_
  refine c_frz ?_
  refine c_callF ?_
  refine c_cons ?_
  refine c_nameV rfl ?_
  refine c_cons ?_
  refine c_tup ?_
  refine c_cons ?_
  refine c_frz ?_
  refine c_c ?_
  refine c_frzD ?_
  refine c_cons ?_
  refine c_frz ?_
  refine c_c ?_
  refine c_frzD ?_
  refine c_nil ?_
  refine c_tupK _ rfl (Nat.le_of_ble_eq_true rfl) ?_
  refine c_cons ?_
  refine c_c ?_
  refine c_nil ?_
  refine c_callK (bk := fun r5 => [.io 0 (.lst (r3.2.map eI)), .val (eI xx), .val (eI r2.1), .val (eI r3.1), .no, .no, .no]) rfl rfl (q_w_written r3.1 (320, 40) ("mfr" : Str)) (fun _ => by walk_at "fl") (fun _ => rfl) fun r5 => ?_
  refine c_frzD ?_
  refine c_nil ?_
  refine c_lstK ([r4, r5].map eS) rfl (Nat.le_of_ble_eq_true rfl) ?_
  refine c_frzN ?_
  refine c_setDL (τ := (List Str)) (eL eS) [r4, r5] (fun due6 => [.io 0 (.lst (r3.2.map eI)), .val (eI xx), .val (eI r2.1), .val (eI r3.1), .val ((eL eS) due6), .no, .no]) (fun _ => rfl) fun due6 => ?_
  refine c_seqN ?_
  refine c_seq ?_
  refine c_bef (e2 := [.io 0 (.lst (r3.2.map eI)), .val (eI xx), .val (eI r2.1), .val (eI r3.1), .val ((eL eS) due6), .no, .no]) rfl ?_
  refine c_for ?_
  refine c_rng ?_
  refine c_cons ?_
  refine c_c ?_
  refine c_nil ?_
  refine c_rngK rfl fun l7 => ?_
  refine c_loopR (E := fun sE : Unit => [.io 0 (.lst (r3.2.map eI)), .val (eI xx), .val (eI r2.1), .val (eI r3.1), .val ((eL eS) due6), .no, .no]) (oR := fun z : (Bool × (List Int)) => .dat (eB z.1)) (eR := fun z => [.io 0 (.lst (z.2.map eI)), .no, .no, .no, .no, .no, .no]) (forL_R (E := fun sE : Unit => [.io 0 (.lst (r3.2.map eI)), .val (eI xx), .val (eI r2.1), .val (eI r3.1), .val ((eL eS) due6), .no, .no]) (oR := fun z : (Bool × (List Int)) => .dat (eB z.1)) (eR := fun z => [.io 0 (.lst (z.2.map eI)), .no, .no, .no, .no, .no, .no]) (ec := eI) (s_w_right_b2 r3.2 (.val (eI xx)) r2.1 r3.1 due6) _ ()) (fun z => ?_) (fun s17 => ?_)
  · refine c_seqR ?_
    refine c_aftR ?_
    exact rfl
  · refine c_seqN ?_
    refine c_ifS ?_
    refine c_orB ?_
    refine c_andB ?_
    refine c_test ?_
    refine c_op ?_
    refine c_nameV rfl ?_
    refine c_c ?_
    refine c_opK rfl rfl ?_
    refine c_pur x_cmp ?_
    refine c_testK ?_
    refine c_ifJ (fun z21 => (z21, [.io 0 (.lst (r3.2.map eI)), .val (eI xx), .val (eI r2.1), .val (eI r3.1), .val ((eL eS) due6), .no, .no])) ?_ ?_ fun z21 => ?_
    · refine c_test ?_
      refine c_op ?_
      refine c_callF ?_
      refine c_cons ?_
      refine c_op ?_
      refine c_nameV rfl ?_
      refine c_c ?_
      refine c_opK rfl rfl ?_
      refine c_pur x_sub ?_
      refine c_nil ?_
      refine c_callK (bk := fun r19 => [.io 0 (.lst (r3.2.map eI)), .val (eI xx), .val (eI r2.1), .val (eI r3.1), .val ((eL eS) due6), .no, .no]) rfl rfl (q_weight_text (r2.1 - 1)) (fun _ => by walk_at "fl") (fun _ => rfl) fun r19 => ?_
      refine c_op ?_
      refine c_nameV rfl ?_
      refine c_c ?_
      refine c_opK rfl rfl ?_
      refine c_cal (x_ix (e := eS) (l := due6)) fun t20 => ?_
      refine c_opK rfl rfl ?_
      refine c_pur x_eqS0 ?_
      refine c_testK ?_
      exact rfl
    · exact rfl
    refine c_ifJ (fun z25 => (z25, [.io 0 (.lst (r3.2.map eI)), .val (eI xx), .val (eI r2.1), .val (eI r3.1), .val ((eL eS) due6), .no, .no])) ?_ ?_ fun z25 => ?_
    · exact rfl
    · refine c_andB ?_
      refine c_test ?_
      refine c_op ?_
      refine c_nameV rfl ?_
      refine c_c ?_
      refine c_opK rfl rfl ?_
      refine c_pur x_cmp ?_
      refine c_testK ?_
      refine c_ifJ (fun z24 => (z24, [.io 0 (.lst (r3.2.map eI)), .val (eI xx), .val (eI r2.1), .val (eI r3.1), .val ((eL eS) due6), .no, .no])) ?_ ?_ fun z24 => ?_
      · refine c_test ?_
        refine c_op ?_
        refine c_callF ?_
        refine c_cons ?_
        refine c_op ?_
        refine c_nameV rfl ?_
        refine c_c ?_
        refine c_opK rfl rfl ?_
        refine c_pur x_sub ?_
        refine c_nil ?_
        refine c_callK (bk := fun r22 => [.io 0 (.lst (r3.2.map eI)), .val (eI xx), .val (eI r2.1), .val (eI r3.1), .val ((eL eS) due6), .no, .no]) rfl rfl (q_length_text (r3.1 - 1)) (fun _ => by walk_at "fl") (fun _ => rfl) fun r22 => ?_
        refine c_op ?_
        refine c_nameV rfl ?_
        refine c_c ?_
        refine c_opK rfl rfl ?_
        refine c_cal (x_ix (e := eS) (l := due6)) fun t23 => ?_
        refine c_opK rfl rfl ?_
        refine c_pur x_eqS0 ?_
        refine c_testK ?_
        exact rfl
      · exact rfl
      exact rfl
    refine c_ite ?_ ?_
    · refine c_ret ?_
      refine c_c ?_
      refine c_retK (.dat (eB false)) rfl (e2 := [.io 0 (.lst (r3.2.map eI)), .no, .no, .no, .no, .no, .no]) rfl ?_
      refine c_aftR ?_
      exact rfl
    · refine c_skip ?_
      refine c_aftN (e2 := [.io 0 (.lst (r3.2.map eI)), .no, .no, .no, .no, .no, .no]) rfl ?_
      exact rfl)
def m_w_right : MS := (mSeq (mBef [1, 2, 3, 4, 5, 6] (mFor (mRange1 (mCons (mC (.int 8)) mNil)) (mgName 1) m_w_right_b3))
    (mRetW [1, 2, 3, 4, 5, 6] (mC (.bool true))))
def fm_w_right : FM := fmOf 1 7 m_w_right
theorem ok_w_right (T : Tx w K mg fd) : FnOk P w K mg base CX0 8 (He.ga K "_law_right") (fd 14) ["_law_box_here"] (spF K fm_w_right) :=
  fn_ok T.F_w_right sc_w_right fun cdv A outer s H E hr => (show VSs _ _ m_w_right from (vs_cons (vs_bef (ws := [1, 2, 3, 4, 5, 6]) (vs_for PassesOwn.never (vi_range1 T.b_range (va_cons ve_int va_nil)) (vg_name (j := 1) sc_w_right.nd) (vs_aft (ws := [1, 2, 3, 4, 5, 6]) (vs_cons (vs_par (i := 2) (j := 3) sc_w_right.nd (vau_cons (ve_frz (ve_callF (some 0) (FnOk.mono (ok_w_number T) (by decide)) hr T.g_w_number T.F_w_number.kp (bi_w_number T) (va_cons (ve_name 0) (va_cons (ve_tup (va_cons (ve_frz ve_int) (va_cons (ve_frz ve_int) va_nil))) va_nil)))) (vau_cons (ve_frz (ve_callF (some 0) (FnOk.mono (ok_w_number T) (by decide)) hr T.g_w_number T.F_w_number.kp (bi_w_number T) (va_cons (ve_name 0) (va_cons (ve_tup (va_cons (ve_frz ve_int) (va_cons (ve_frz ve_int) va_nil))) va_nil)))) vau_nil)))
      (vs_cons (vs_set (i := 4) sc_w_right.nd (ve_frz (ve_lst (va_cons (ve_frz (ve_callF none (FnOk.mono (ok_w_written T) (by decide)) hr T.g_w_written T.F_w_written.kp (bi_w_written T) (va_cons (ve_name 2) (va_cons (ve_tup (va_cons (ve_frz ve_int) (va_cons (ve_frz ve_int) va_nil))) (va_cons ve_str va_nil))))) (va_cons (ve_frz (ve_callF none (FnOk.mono (ok_w_written T) (by decide)) hr T.g_w_written T.F_w_written.kp (bi_w_written T) (va_cons (ve_name 3) (va_cons (ve_tup (va_cons (ve_frz ve_int) (va_cons (ve_frz ve_int) va_nil))) (va_cons ve_str va_nil))))) va_nil)))))
      (vs_cons (vs_bef (ws := [5, 6]) (vs_for PassesOwn.never (vi_range1 T.b_range (va_cons ve_int va_nil)) (vg_name (j := 5) sc_w_right.nd) (vs_aft (ws := [5, 6]) (vs_cons (vs_if (vt_not (vt_val (ve_callF none (FnOk.mono (ok_w_same T 6) (by decide)) hr T.g_w_same T.F_w_same.kp (bi_w_same T) (va_cons (ve_lst (va_cons (ve_frz (ve_callF none (FnOk.mono (ok_weight_text T) (by decide)) hr T.g_weight_text T.F_weight_text.kp (bi_weight_text T) (va_cons (ve_name 2) va_nil))) (va_cons (ve_frz (ve_callF none (FnOk.mono (ok_length_text T) (by decide)) hr T.g_length_text T.F_length_text.kp (bi_length_text T) (va_cons (ve_name 3) va_nil))) va_nil))) (va_cons (ve_name 4) va_nil))))) (vs_one (vs_retW ve_bl)) vs_nil)
      (vs_cons (vs_set (i := 6) sc_w_right.nd (ve_frz (ve_lst (va_cons (ve_frz (ve_if (vt_cmp op_lt (od_cmp (p := fun i j => decide (i < j))) (ve_name 2) (ve_op or_mul od_mul ve_int (ve_op op_pow od_pow ve_int ve_int)) (nomark _)) (ve_name 2) ve_non)) (va_cons (ve_frz (ve_if (vt_cmp op_lt (od_cmp (p := fun i j => decide (i < j))) (ve_name 3) (ve_op or_mul od_mul ve_int (ve_op op_pow od_pow ve_int ve_int)) (nomark _)) (ve_name 3) ve_non)) va_nil)))))
      (vs_one (vs_if (vt_not (vt_val (ve_callF none (FnOk.mono (ok_w_same T 6) (by decide)) hr T.g_w_same T.F_w_same.kp (bi_w_same T) (va_cons (ve_lst (va_cons (ve_frz (ve_callF none (FnOk.mono (ok_weight_in T) (by decide)) hr T.g_weight_in T.F_weight_in.kp (bi_weight_in T) (va_cons (ve_ix ix_seq od_ix (ve_name 4) ve_int (fun _ _ => rfl)) va_nil))) (va_cons (ve_frz (ve_callF none (FnOk.mono (ok_length_in T) (by decide)) hr T.g_length_in T.F_length_in.kp (bi_length_in T) (va_cons (ve_ix ix_seq od_ix (ve_name 4) ve_int (fun _ _ => rfl)) va_nil))) va_nil))) (va_cons (ve_name 6) va_nil))))) (vs_one (vs_retW ve_bl)) vs_nil)))))))
      (vs_one (vs_if (vt_w (vw_or (vt_w (vw_and (vt_cmp op_gt (od_cmp (p := fun i j => decide (j < i))) (ve_name 2) ve_int (nomark _)) (vw_and1 (vt_cmp (or_eq hr.units) od_eq (ve_callF none (FnOk.mono (ok_weight_text T) (by decide)) hr T.g_weight_text T.F_weight_text.kp (bi_weight_text T) (va_cons (ve_op op_sub od_sub (ve_name 2) ve_int) va_nil)) (ve_ix ix_seq od_ix (ve_name 4) ve_int (fun _ _ => rfl)) (nomark _))))) (vw_or1 (vt_w (vw_and (vt_cmp op_gt (od_cmp (p := fun i j => decide (j < i))) (ve_name 3) ve_int (nomark _)) (vw_and1 (vt_cmp (or_eq hr.units) od_eq (ve_callF none (FnOk.mono (ok_length_text T) (by decide)) hr T.g_length_text T.F_length_text.kp (bi_length_text T) (va_cons (ve_op op_sub od_sub (ve_name 3) ve_int) va_nil)) (ve_ix ix_seq od_ix (ve_name 4) ve_int (fun _ _ => rfl)) (nomark _)))))))) (vs_one (vs_retW ve_bl)) vs_nil))))))))
      (vs_one (vs_retW ve_bl))))
def P_w_right (box : (List Int)) : Option (Bool × (List Int)) :=
  (pRng 8).bind fun l1 =>
  (forR (P_w_right_b4 ) l1 box).bind fun w27 => w27.on (fun z => some z) fun s26 =>
    some (true, s26)
theorem q_w_right (box : (List Int)) : fm_w_right [.io 0 (.lst (box.map eI))] = (P_w_right box).map fun z => (.dat (eB z.1), [.io 0 (.lst (z.2.map eI))]) := by
  unfold fm_w_right m_w_right P_w_right
  refine c_fm (oR := fun z : (Bool × (List Int)) => .dat (eB z.1)) (eR := fun z => [.io 0 (.lst (z.2.map eI)), .no, .no, .no, .no, .no, .no]) [.io 0 (.lst (box.map eI)), .no, .no, .no, .no, .no, .no] rfl rfl ?_ (fun _ => rfl) (fun _ => by walk_at "ik") (fun _ => rfl)
  refine c_seq ?_
  refine c_bef (e2 := [.io 0 (.lst (box.map eI)), .no, .no, .no, .no, .no, .no]) rfl ?_
  refine c_for ?_
  refine c_rng ?_
  refine c_cons ?_
  refine c_c ?_
  refine c_nil ?_
  refine c_rngK rfl fun l1 => ?_
  refine c_loopR (E := fun sE : (List Int) => [.io 0 (.lst (sE.map eI)), .no, .no, .no, .no, .no, .no]) (oR := fun z : (Bool × (List Int)) => .dat (eB z.1)) (eR := fun z => [.io 0 (.lst (z.2.map eI)), .no, .no, .no, .no, .no, .no]) (forL_R (E := fun sE : (List Int) => [.io 0 (.lst (sE.map eI)), .no, .no, .no, .no, .no, .no]) (oR := fun z : (Bool × (List Int)) => .dat (eB z.1)) (eR := fun z => [.io 0 (.lst (z.2.map eI)), .no, .no, .no, .no, .no, .no]) (ec := eI) (s_w_right_b4 ) _ box) (fun z => ?_) (fun s26 => ?_)
  · refine c_seqR ?_
    exact rfl
  · refine c_seqN ?_
    refine c_ret ?_
    refine c_c ?_
    refine c_retK (.dat (eB true)) rfl (e2 := [.io 0 (.lst (s26.map eI)), .no, .no, .no, .no, .no, .no]) rfl ?_
    exact rfl
def m_law_e1 : ME := (mCallN fm_w_right (mCallF fm_w_box none (mCons (mName 1) (mCons (mName 2) mNil))))
def P_law_l2 (cells : (List Int)) (y8 : Int) : Option Bool :=
  (P_w_box cells y8).bind fun r9 =>
  (P_w_right r9).bind fun t10 =>
  some t10.1
theorem s_law_l2 (o0 : Slot) (cells : (List Int)) (y8 : Int) : lcStep (mgName 2) mYes m_law_e1 [2] (eI y8) [o0, .val ((eL eI) cells), .no] = (P_law_l2 cells y8).map fun z => (some (eB z), [o0, .val ((eL eI) cells), .no]) := c_stepM (α := Unit) (by
  unfold P_law_l2
  refine c_gname (e2 := [o0, .val ((eL eI) cells), .val (eI y8)]) rfl ?_
  refine c_yes ?_
  refine c_iteT ?_
  refine c_bb ?_
  refine c_callN ?_
  refine c_callF ?_
  refine c_cons ?_
  refine c_nameV rfl ?_
  refine c_cons ?_
  refine c_nameV rfl ?_
  refine c_nil ?_
  refine c_callK (bk := fun r9 => [o0, .val ((eL eI) cells), .val (eI y8)]) rfl rfl (q_w_box cells y8) (fun _ => by walk_at "fl") (fun _ => rfl) fun r9 => ?_
  refine c_callNK (q_w_right r9) fun t10 => ?_
  refine c_frzD ?_
  refine c_elt (e1 := [o0, .val ((eL eI) cells), .no]) rfl ?_
  exact rfl)
def m_law : MS := (mSeq (mSet 1 (mFrz (mCallF fm_w_folded none (mCons (mName 0) (mCons (mC (.int 6)) mNil)))))
    (mSeq (mIfS (mTest (mOp (gEq true) (mLst (mCons (mFrz (mCallF fm_weight_text none (mCons (mC (.int 0)) mNil))) (mCons (mFrz (mCallF fm_length_text none (mCons (mC (.int 0)) mNil))) (mCons (mFrz (mCallF fm_weight_in none (mCons (mC (.str "0p")) mNil))) (mCons (mFrz (mCallF fm_length_in none (mCons (mC (.str "0r")) mNil))) mNil))))) (mLst (mCons (mFrz (mC (.str "0p"))) (mCons (mFrz (mC (.str "0r"))) (mCons (mFrz (mC (.int 0))) (mCons (mFrz (mC (.int 0))) mNil))))))) (mRetW [0, 1, 2] (mC (.bool false))) mSkip)
    (mRetW [0, 1, 2] (mCB gAll (mCons (mLc (mRange1 (mCons (mCB (gInt2 fun i j => if j > i then j else i) (mCons (mC (.int 1)) (mCons (mCB gLen (mCons (mName 1) mNil)) mNil))) mNil)) (mgName 2) mYes m_law_e1 [2]) mNil)))))
def fm_law : FM := fmOf 1 3 m_law
theorem ok_law (T : Tx w K mg fd) : FnOk P w K mg base CX0 9 (He.ga K "law") (fd 15) ["_law_script"] (spF K fm_law) :=
  fn_ok T.F_law sc_law fun cdv A outer s H E hr => (show VSs _ _ m_law from (vs_cons (vs_set (i := 1) sc_law.nd (ve_frz (ve_callF none (FnOk.mono (ok_w_folded T) (by decide)) hr T.g_w_folded T.F_w_folded.kp (bi_w_folded T) (va_cons (ve_name 0) (va_cons ve_int va_nil)))))
      (vs_cons (vs_if (vt_cmp (or_ne hr.units) od_ne (ve_lst (va_cons (ve_frz (ve_callF none (FnOk.mono (ok_weight_text T) (by decide)) hr T.g_weight_text T.F_weight_text.kp (bi_weight_text T) (va_cons ve_int va_nil))) (va_cons (ve_frz (ve_callF none (FnOk.mono (ok_length_text T) (by decide)) hr T.g_length_text T.F_length_text.kp (bi_length_text T) (va_cons ve_int va_nil))) (va_cons (ve_frz (ve_callF none (FnOk.mono (ok_weight_in T) (by decide)) hr T.g_weight_in T.F_weight_in.kp (bi_weight_in T) (va_cons ve_str va_nil))) (va_cons (ve_frz (ve_callF none (FnOk.mono (ok_length_in T) (by decide)) hr T.g_length_in T.F_length_in.kp (bi_length_in T) (va_cons ve_str va_nil))) va_nil))))) (ve_lst (va_cons (ve_frz ve_str) (va_cons (ve_frz ve_str) (va_cons (ve_frz ve_int) (va_cons (ve_frz ve_int) va_nil))))) (nomark _)) (vs_one (vs_retW ve_bl)) vs_nil)
      (vs_one (vs_retW (ve_callB (cr_all rfl) cd_all (by rfl) T.b_all (by decide +kernel) (va_cons (ve_lc (own := [("_law_k", 2)]) sc_law.nd (vi_range1 T.b_range (va_cons (ve_callB (call_max2 rfl) (cd_int2 (f := fun i j => if j > i then j else i)) (by rfl) T.b_max (by decide +kernel) (va_cons ve_int (va_cons (ve_callB call_len cd_len (by rfl) T.b_len PySem.boot_len (va_cons (ve_name 1) va_nil)) va_nil))) va_nil)) (blkOk_by (own := [("_law_k", 2)]) (N := ["_law_script", "_law_cells", "_law_k"]) (sc := defScope s_law) (by decide +kernel)) (fun _ _ _ _ _ => (vg_name (j := 2) sc_law.nd)) (fun _ _ _ _ _ => vts_nil) (fun _ _ _ _ _ => (ve_callN (FnOk.mono (ok_w_right T) (by decide)) hr T.g_w_right T.F_w_right.kp (bi_w_right T) (ve_callF none (FnOk.mono (ok_w_box T) (by decide)) hr T.g_w_box T.F_w_box.kp (bi_w_box T) (va_cons (ve_name 1) (va_cons (ve_name 2) va_nil))))) (by decide)) va_nil)))))))
def P_law (script : List Int) : Option Bool :=
  (P_w_folded script 6).bind fun r1 =>
  (P_weight_text 0).bind fun r2 =>
  (P_length_text 0).bind fun r3 =>
  (P_weight_in ("0p" : Str)).bind fun r4 =>
  (P_length_in ("0r" : Str)).bind fun r5 =>
  (pEqD true ((eH4 eS eS (eO eI) (eO eI)) (r2, r3, r4, r5)) ((eH4 eS eS eI eI) (("0p" : Str), ("0r" : Str), 0, 0))).bind fun t6 =>
  if t6 = true then
    some false
  else
    (pRng (maxI 1 (r1.length : Int))).bind fun l7 =>
    (gd (l7.length ≤ 100000)).bind fun _ =>
    (mapO (P_law_l2 r1) l7).bind fun l11 =>
    some (l11.all id)
theorem q_law (script : List Int) : fm_law [.scr script] = (P_law script).map fun z => (.dat (eB z), [.no]) := by
  unfold fm_law m_law P_law
  refine c_fm (oR := fun z : Bool => .dat (eB z)) (eR := fun z => [.no, .no, .no]) [.scr script, .no, .no] rfl rfl ?_ (fun _ => rfl) (fun _ => by walk_at "ik") (fun _ => rfl)
  refine c_seq ?_
  refine c_set ?_
  refine c_frz ?_
  refine c_callF ?_
  refine c_cons ?_
  refine c_nameS rfl ?_
  refine c_cons ?_
  refine c_c ?_
  refine c_nil ?_
  refine c_callK (bk := fun r1 => [.scr script, .no, .no]) rfl rfl (q_w_folded script 6) (fun _ => by walk_at "fl") (fun _ => rfl) fun r1 => ?_
  refine c_frzN ?_
  refine c_setD (e2 := [.scr script, .val ((eL eI) r1), .no]) rfl ?_
  refine c_seqN ?_
  refine c_seq ?_
  refine c_ifS ?_
  refine c_test ?_
  refine c_op ?_
  refine c_lst ?_
  refine c_cons ?_
  refine c_frz ?_
  refine c_callF ?_
  refine c_cons ?_
  refine c_c ?_
  refine c_nil ?_
  refine c_callK (bk := fun r2 => [.scr script, .val ((eL eI) r1), .no]) rfl rfl (q_weight_text 0) (fun _ => by walk_at "fl") (fun _ => rfl) fun r2 => ?_
  refine c_frzD ?_
  refine c_cons ?_
  refine c_frz ?_
  refine c_callF ?_
  refine c_cons ?_
  refine c_c ?_
  refine c_nil ?_
  refine c_callK (bk := fun r3 => [.scr script, .val ((eL eI) r1), .no]) rfl rfl (q_length_text 0) (fun _ => by walk_at "fl") (fun _ => rfl) fun r3 => ?_
  refine c_frzD ?_
  refine c_cons ?_
  refine c_frz ?_
  refine c_callF ?_
  refine c_cons ?_
  refine c_c ?_
  refine c_nil ?_
  refine c_callK (bk := fun r4 => [.scr script, .val ((eL eI) r1), .no]) rfl rfl (q_weight_in ("0p" : Str)) (fun _ => by walk_at "fl") (fun _ => rfl) fun r4 => ?_
  refine c_frzD ?_
  refine c_cons ?_
  refine c_frz ?_
  refine c_callF ?_
  refine c_cons ?_
  refine c_c ?_
  refine c_nil ?_
  refine c_callK (bk := fun r5 => [.scr script, .val ((eL eI) r1), .no]) rfl rfl (q_length_in ("0r" : Str)) (fun _ => by walk_at "fl") (fun _ => rfl) fun r5 => ?_
  refine c_frzD ?_
  refine c_nil ?_
  refine c_lstK [eS r2, eS r3, (eO eI) r4, (eO eI) r5] rfl (Nat.le_of_ble_eq_true rfl) ?_
  refine c_lst ?_
  refine c_cons ?_
  refine c_frz ?_
  refine c_c ?_
  refine c_frzD ?_
  refine c_cons ?_
  refine c_frz ?_
  refine c_c ?_
  refine c_frzD ?_
  refine c_cons ?_
  refine c_frz ?_
  refine c_c ?_
  refine c_frzD ?_
  refine c_cons ?_
  refine c_frz ?_
  refine c_c ?_
  refine c_frzD ?_
  refine c_nil ?_
  refine c_lstK [eS ("0p" : Str), eS ("0r" : Str), eI 0, eI 0] rfl (Nat.le_of_ble_eq_true rfl) ?_
  refine c_opK rfl rfl ?_
  refine c_cal x_eqD fun t6 => ?_
  refine c_testK ?_
  refine c_ite ?_ ?_
  · refine c_ret ?_
    refine c_c ?_
    refine c_retK (.dat (eB false)) rfl (e2 := [.no, .no, .no]) rfl ?_
    refine c_seqR ?_
    exact rfl
  · refine c_skip ?_
    refine c_seqN ?_
    refine c_ret ?_
    refine c_cb ?_
    refine c_cons ?_
    refine c_lc ?_
    refine c_rng ?_
    refine c_cons ?_
    refine c_cb ?_
    refine c_cons ?_
    refine c_c ?_
    refine c_cons ?_
    refine c_cb ?_
    refine c_cons ?_
    refine c_nameV rfl ?_
    refine c_nil ?_
    refine c_cbK _ rfl ?_
    refine c_pur (x_lenL (e := eI) (l := r1)) ?_
    refine c_nil ?_
    refine c_cbK _ rfl ?_
    refine c_pur x_int2 ?_
    refine c_nil ?_
    refine c_rngK rfl fun l7 => ?_
    refine c_lcK (xs := l7) (ec := eI) (e1 := [.scr script, .val ((eL eI) r1), .no]) (by exact rfl) ?_
    refine c_cal2 (lc_mapO (s_law_l2 (.scr script) r1) _) fun l11 => ?_
    refine c_nil ?_
    refine c_cbK _ rfl ?_
    refine c_pur (x_all (l := l11)) ?_
    refine c_retK (.dat (eB (l11.all id))) rfl (e2 := [.no, .no, .no]) rfl ?_
    exact rfl
end
end Lw
namespace Lw
open PySem L2 Cm
/-! drawing -/
theorem sq_le {c : Int} (h0 : 0 ≤ c) (h1 : c ≤ 2147483648) : 0 ≤ c * c ∧ c * c ≤ 2147483648 * 2147483648 := ⟨Int.mul_nonneg h0 h0, Int.mul_le_mul h1 h1 h0 (by omega)⟩
theorem take_wp {b : List Int} {n m : Int} (h : Bok b n) (hn : n < 2147483648) (hm : 0 < m ∧ m < 1073741824) : Wp (P_w_take b m) fun r => (0 ≤ r.1 ∧ r.1 < m) ∧ Bok r.2 (n + 1) := by
  obtain ⟨a, v, c, rfl, h1, h2, h3⟩ := h
  unfold P_w_take
  refine wp_be (ix_eq (z := a) (by omega) rfl) ?_
  refine wp_ifd (fun ha => ?_) (fun ha => ?_)
  · refine wp_be (ix_eq (z := a) (by omega) rfl) ?_
    refine wp_be (mod_eq hm.1) ?_
    refine wp_be (ix_eq (z := a) (by omega) rfl) ?_
    refine wp_be (div_eq hm) ?_
    refine wp_be (set_eq (by omega) (by simp)) ?_
    exact wp_some ⟨⟨Int.emod_nonneg _ (by omega), Int.emod_lt_of_pos _ hm.1⟩, a / m, v, c, rfl, Int.ediv_nonneg h1 (by omega), h2, by omega⟩
  · have hs := sq_le (c := c + 1) (by omega) (by omega)
    refine wp_be (ix_eq (z := c) (by omega) rfl) ?_
    refine wp_be (set_eq (by omega) (by simp)) ?_
    refine wp_be (ix_eq (z := c + 1) (by omega) rfl) ?_
    refine wp_be (ix_eq (z := c + 1) (by omega) rfl) ?_
    refine wp_be (mul_eq (by omega)) ?_
    refine wp_let ?_
    refine wp_be (ix_eq (z := v) (by omega) rfl) ?_
    refine wp_be (ix_eq (z := c + 1) (by omega) rfl) ?_
    generalize (c + 1) * (c + 1) = q at hs ⊢
    refine wp_be (mul_eq (.inr (by omega))) ?_
    refine wp_let ?_
    refine wp_be (mul_eq (.inr (by omega))) ?_
    refine wp_be (ix_eq (z := c + 1) (by omega) rfl) ?_
    refine wp_let ?_
    refine wp_be (mul_eq (.inr (by omega))) ?_
    refine wp_be (mod_eq hm.1) ?_
    exact wp_some ⟨⟨Int.emod_nonneg _ (by omega), Int.emod_lt_of_pos _ hm.1⟩, a, v, c + 1, rfl, h1, by omega, by omega⟩
theorem box_wp (l : List Int) (k : Int) (hk : 0 ≤ k) : Wp (P_w_box l k) fun b => Bok b 0 := by
  unfold P_w_box
  refine wp_bind (R := fun _ => True) ?_ fun z _ => ?_
  · refine wp_ifd (fun h => ?_) (fun h => ?_)
    · exact wp_bind (ix_wp hk h) fun z _ => wp_some trivial
    · exact wp_some trivial
  · have ha := absI_nn z
    refine wp_be (mul_eq (.inr (by split <;> omega))) ?_
    refine wp_some ⟨_, _, _, rfl, ?_, by omega, by omega⟩
    split
    · omega
    · simp
theorem folded_wp (ns : List Int) (h63 : ns.length ≤ 63) (k : Nat) (hk : 0 < k ∧ k < 1000) : Wp (P_w_folded ns (k : Int)) fun cs => cs.length ≤ k := by
  unfold P_w_folded
  refine wp_let ?_
  rw [cutL_to]
  refine wp_bind (wp_loop (I := fun _ s => s.length = (ns.take k).length) rfl ?_) fun s hs => wp_some ?_
  · intro j x s hx hs
    obtain ⟨h1, h2⟩ := enumI_get hx
    rw [Nat.zero_add] at h1
    have hj := (List.getElem?_eq_some_iff.mp h2).1
    have hl : (cutL ns (some (k : Int)) (some 63)).length ≤ ns.length := cutL_len _ _ _
    -- the list behind is empty where there are fewer than k
    have hfull : (ns.take k).length = k := by
      rw [List.length_take]
      by_cases hc : k ≤ ns.length
      · omega
      · exfalso
        have : cutL ns (some (k : Int)) (some 63) = [] := by
          unfold cutL
          rw [HT.sIx_nat, Nat.min_eq_right (by omega), List.drop_of_length_le (Nat.le_refl _), List.take_nil]
        rw [this] at hj
        simp at hj
    unfold P_w_folded_b2
    have m1 := Int.emod_nonneg x.1 (b := (k : Int)) (by omega)
    have m2 := Int.emod_lt_of_pos x.1 (b := (k : Int)) (by omega)
    refine wp_be (mod_eq (by omega)) ?_
    refine wp_bind (ix_wp m1 (by omega)) fun t3 _ => ?_
    refine wp_be (mul_eq (.inr (by omega))) ?_
    refine wp_be (mod_eq (by omega)) ?_
    refine wp_be (set_eq m1 (by omega)) ?_
    exact wp_some (by rw [List.length_set]; exact hs)
  · rw [hs, List.length_take]; omega
theorem app_len (a b : Str) : (a ++ b).length = a.length + b.length := by
  show (a.cps ++ b.cps).size = a.cps.size + b.cps.size
  simp
theorem app_list (a b : Str) : (a ++ b).cps.toList = a.cps.toList ++ b.cps.toList := by
  show (a.cps ++ b.cps).toList = _
  simp
/-! texts of numbers -/
theorem emp_len : ("" : Str).length = 0 := by decide +kernel
theorem emp_cps : ("" : Str) = ⟨#[]⟩ := by decide +kernel
theorem emp_app (x : Str) : ("" : Str) ++ x = x := by
  rw [emp_cps]
  show (⟨#[] ++ x.cps⟩ : Str) = x
  simp
theorem app_emp (x : Str) : x ++ ("" : Str) = x := by
  rw [emp_cps]
  show (⟨x.cps ++ #[]⟩ : Str) = x
  simp
theorem len_emp {x : Str} (h : 1 ≤ x.length) : ¬ x = "" := fun e => by
  rw [e, emp_len] at h
  omega
theorem log2_small {v : Int} (h0 : 0 ≤ v) (h1 : v < 10 ^ 9) : v.natAbs.log2 < 1920 := by
  by_cases hv : v.natAbs = 0
  · rw [hv]
    decide
  · rw [Nat.log2_lt hv]
    have : v.natAbs < 2 ^ 30 := by omega
    exact Nat.lt_of_lt_of_le this (Nat.pow_le_pow_right (by omega) (by omega))
theorem str_eq {v : Int} (h0 : 0 ≤ v) (h1 : v < 10 ^ 9) : pStr v = some (Str.ofString (toString v)) ∧ (Str.ofString (toString v)).length ≤ 9 := by
  refine ⟨if_pos (log2_small h0 h1), PyProof.Rows.toString_length_le h0 (by omega) h1⟩
theorem catS_eq {a b : Str} (h : a.length + b.length ≤ 100000) : pCatS a b = some (a ++ b) := if_pos h
/-- a number, so many of a unit -/
def piece (n w : Int) (l : Str) : Str := Str.ofString (toString (n / w)) ++ l
theorem piece_len {n w : Int} {l : Str} (hn : 0 ≤ n ∧ n < 10 ^ 9) (hw : 0 < w) (hl : l.length = 1) : 1 ≤ (piece n w l).length ∧ (piece n w l).length ≤ 10 := by
  have h0 : 0 ≤ n / w := Int.ediv_nonneg hn.1 (by omega)
  have h1 : n / w ≤ n := Int.ediv_le_self w hn.1
  have := (str_eq h0 (by omega)).2
  unfold piece
  rw [app_len]
  omega
/-- texts that can be laid -/
theorem strOk_app {a b : Str} (ha : PyData.strOk a = true) (hb : PyData.strOk b = true) : PyData.strOk (a ++ b) = true := by
  unfold PyData.strOk at *
  show (a.cps ++ b.cps).all _ = true
  rw [Array.all_append, ha, hb]
  rfl
theorem strOk_num (v : Int) : PyData.strOk (Str.ofString (toString v)) = true := by
  unfold PyData.strOk
  rw [Str.ofString_eq_toList, Array.all_eq_true']
  intro c hc
  rw [List.mem_toArray] at hc
  obtain ⟨d, hd, rfl⟩ := List.mem_map.mp hc
  have := int_ascii v d hd
  simp
  omega
/-! data that can be laid -/
structure Lay (d : PyData) (k : Nat) : Prop where
  can : PyData.canLay0 d = true
  dep : PyData.depth d ≤ k
theorem Lay.mono {d : PyData} {k l : Nat} (h : Lay d k) (e : k ≤ l) : Lay d l := ⟨h.can, Nat.le_trans h.dep e⟩
theorem layI (i : Int) : Lay (.int i) 0 := ⟨by simp [PyData.canLay0], by simp [PyData.depth]⟩
theorem layB (i : Bool) : Lay (.bool i) 0 := ⟨by simp [PyData.canLay0], by simp [PyData.depth]⟩
theorem layN : Lay .none 0 := ⟨by simp [PyData.canLay0], by simp [PyData.depth]⟩
theorem layS {x : Str} (h : PyData.strOk x = true) : Lay (.str x) 0 := ⟨by simpa [PyData.canLay0] using h, by simp [PyData.depth]⟩
theorem layAll {ds : List PyData} {k : Nat} (h : ∀ d ∈ ds, Lay d k) : PyData.canLayAll0 ds = true ∧ PyData.depthAll ds ≤ k := by
  induction ds with
  | nil => exact ⟨by simp [PyData.canLayAll0], by simp [PyData.depthAll]⟩
  | cons d ds ih =>
    obtain ⟨h1, h2⟩ := ih fun x hx => h x (List.mem_cons_of_mem _ hx)
    obtain ⟨h3, h4⟩ := h d List.mem_cons_self
    refine ⟨by simp [PyData.canLayAll0, h1, h3], ?_⟩
    simp only [PyData.depthAll]
    omega
theorem layL {ds : List PyData} {k : Nat} (h : ∀ d ∈ ds, Lay d k) : Lay (.list ds) (k + 1) := by
  obtain ⟨h1, h2⟩ := layAll h
  refine ⟨by simpa [PyData.canLay0] using h1, ?_⟩
  simp only [PyData.depth]
  omega
theorem layT {ds : List PyData} {k : Nat} (h : ∀ d ∈ ds, Lay d k) : Lay (.tuple ds) (k + 1) := by
  obtain ⟨h1, h2⟩ := layAll h
  refine ⟨by simpa [PyData.canLay0] using h1, ?_⟩
  simp only [PyData.depth]
  omega
theorem Lay.shaped {d : PyData} {k : Nat} (h : Lay d k) (hk : k ≤ 64) : SeqAt.shaped d = true := by
  obtain ⟨h1, h2⟩ := h
  simp only [SeqAt.shaped, h1, Bool.true_and, decide_eq_true_eq]
  omega
theorem eq_eq {α : Type} [DecidableEq α] {e : α → PyData} {neg : Bool} {x y : α} {k l : Nat} (h1 : Lay (e x) k) (h2 : Lay (e y) l) (hk : k ≤ 64) (hl : l ≤ 64) : pEq e neg x y = some (neg ^^ decide (x = y)) := by
  unfold pEq
  rw [h1.shaped hk, h2.shaped hl]
  rfl
/-! kinds of things -/
theorem isi_LL {l : List PyData} : pIsi "list" (.list l) = some true := kit_list_list
theorem isi_TL {l : List PyData} : pIsi "tuple" (.list l) = some false := kit_list_tuple
theorem isi_LT {l : List PyData} : pIsi "list" (.tuple l) = some false := kit_tuple_list
theorem isi_TT {l : List PyData} : pIsi "tuple" (.tuple l) = some true := kit_tuple_tuple
theorem isi2_L {l : List PyData} : pIsi2 "list" "tuple" (.list l) = some true := by
  unfold pIsi2
  show (kitB "list" "list").bind _ = _
  rw [kit_list_list, Option.bind_some]
  show (kitB "list" "tuple").map _ = _
  rw [kit_list_tuple]
  rfl
theorem isi2_T {l : List PyData} : pIsi2 "list" "tuple" (.tuple l) = some true := by
  unfold pIsi2
  show (kitB "tuple" "list").bind _ = _
  rw [kit_tuple_list, Option.bind_some]
  show (kitB "tuple" "tuple").map _ = _
  rw [kit_tuple_tuple]
  rfl
theorem isi2_I {i : Int} : pIsi2 "list" "tuple" (.int i) = some false := by
  unfold pIsi2
  show (kitB "int" "list").bind _ = _
  rw [kit_int_list, Option.bind_some]
  show (kitB "int" "tuple").map _ = _
  rw [kit_int_tuple]
  rfl
theorem isi2_S {i : Str} : pIsi2 "list" "tuple" (.str i) = some false := by
  unfold pIsi2
  show (kitB "str" "list").bind _ = _
  rw [kit_str_list, Option.bind_some]
  show (kitB "str" "tuple").map _ = _
  rw [kit_str_tuple]
  rfl
theorem isi2_B {i : Bool} : pIsi2 "list" "tuple" (.bool i) = some false := by
  unfold pIsi2
  show (kitB "bool" "list").bind _ = _
  rw [kit_bool_list, Option.bind_some]
  show (kitB "bool" "tuple").map _ = _
  rw [kit_bool_tuple]
  rfl
theorem isi2_N : pIsi2 "list" "tuple" .none = some false := by
  unfold pIsi2
  show (kitB "NoneType" "list").bind _ = _
  rw [kit_NoneType_list, Option.bind_some]
  show (kitB "NoneType" "tuple").map _ = _
  rw [kit_NoneType_tuple]
  rfl
theorem isi_BI {i : Int} : pIsi "bool" (.int i) = some false := kit_int_bool
theorem isi_SI {i : Int} : pIsi "str" (.int i) = some false := kit_int_str
theorem isi_II {i : Int} : pIsi "int" (.int i) = some true := kit_int_int
theorem isi_BS {i : Str} : pIsi "bool" (.str i) = some false := kit_str_bool
theorem isi_SS {i : Str} : pIsi "str" (.str i) = some true := kit_str_str
theorem isi_BB {i : Bool} : pIsi "bool" (.bool i) = some true := kit_bool_bool
/-! the law's sameness: of a thing and itself -/
inductive Sm : Nat → PyData → Prop
  | non : Sm 0 .none
  | int (i : Int) : Sm 0 (.int i)
  | str (x : Str) : Sm 0 (.str x)
  | bool (b : Bool) : Sm 0 (.bool b)
  | lst {k : Nat} {ds : List PyData} : ds.length ≤ 100000 → (∀ d ∈ ds, Sm k d) → Sm (k + 1) (.list ds)
  | tup {k : Nat} {ds : List PyData} : ds.length ≤ 100000 → (∀ d ∈ ds, Sm k d) → Sm (k + 1) (.tuple ds)
  | up {k : Nat} {d : PyData} : Sm k d → Sm (k + 1) d
theorem same_some {k : Nat} {d : PyData} (h : Sm k d) : ∀ n, k < n → P_w_same n d d = some true := by
  have hz : ∀ (n : Nat) (ds : List PyData), (∀ d ∈ ds, P_w_same n d d = some true) → ∀ (f : PyData × PyData → Option Bool), (∀ x, f x = (P_w_same n x.1 x.2).bind fun r => some r) → mapO f (ds.zip ds) = some ((ds.zip ds).map fun _ => true) := fun n ds hd f hf => by
    refine mapO_eq fun x hx => ?_
    have h1 : x.1 = x.2 ∧ x.1 ∈ ds := by
      obtain ⟨i, hi, rfl⟩ := List.getElem_of_mem hx
      rw [List.getElem_zip]
      exact ⟨rfl, List.getElem_mem _⟩
    rw [hf, ← h1.1, hd _ h1.2]
    rfl
  have hall : ∀ l : List (PyData × PyData), (l.map fun _ => true).all id = true := fun l => all_trues fun b hb => by
    obtain ⟨_, _, rfl⟩ := List.mem_map.mp hb
    rfl
  induction h with
  | non =>
    intro n hn
    obtain ⟨m, rfl⟩ : ∃ m, n = m + 1 := ⟨n - 1, by omega⟩
    show P_w_same_0 _ _ _ = _
    unfold P_w_same_0
    rw [isi2_N]
    rfl
  | int i =>
    intro n hn
    obtain ⟨m, rfl⟩ : ∃ m, n = m + 1 := ⟨n - 1, by omega⟩
    show P_w_same_0 _ _ _ = _
    unfold P_w_same_0
    have : pEqD false (.int i) (.int i) = some true := by simp [pEqD, scalD, PyData.eqv]
    simp [isi2_I, pIsN, isNoneD, isi_BI, isi_SI, isi_II, this]
  | str i =>
    intro n hn
    obtain ⟨m, rfl⟩ : ∃ m, n = m + 1 := ⟨n - 1, by omega⟩
    show P_w_same_0 _ _ _ = _
    unfold P_w_same_0
    have : pEqD false (.str i) (.str i) = some true := by simp [pEqD, scalD, PyData.eqv]
    simp [isi2_S, pIsN, isNoneD, isi_BS, isi_SS, this]
  | bool i =>
    intro n hn
    obtain ⟨m, rfl⟩ : ∃ m, n = m + 1 := ⟨n - 1, by omega⟩
    show P_w_same_0 _ _ _ = _
    unfold P_w_same_0
    have : pEqD false (.bool i) (.bool i) = some true := by simp [pEqD, scalD, PyData.eqv]
    simp [isi2_B, pIsN, isNoneD, isi_BB, this]
  | @lst k ds hl hd ih =>
    intro n hn
    obtain ⟨m, rfl⟩ : ∃ m, n = m + 1 := ⟨n - 1, by omega⟩
    have hm := hz m ds (fun d h => ih d h m (by omega)) (P_w_same_l2 (P_w_same m)) fun x => rfl
    show P_w_same_0 _ _ _ = _
    unfold P_w_same_0
    have hzl : (ds.zip ds).length ≤ 100000 := by rw [List.length_zip]; omega
    simp only [isi2_L, isi_LL, isi_TL, Option.bind_some, if_true, pLenD, pZipA, gd_eq hzl, hm, hall]
    simp
  | @tup k ds hl hd ih =>
    intro n hn
    obtain ⟨m, rfl⟩ : ∃ m, n = m + 1 := ⟨n - 1, by omega⟩
    have hm := hz m ds (fun d h => ih d h m (by omega)) (P_w_same_l2 (P_w_same m)) fun x => rfl
    show P_w_same_0 _ _ _ = _
    unfold P_w_same_0
    have hzl : (ds.zip ds).length ≤ 100000 := by rw [List.length_zip]; omega
    simp only [isi2_T, isi_LT, isi_TT, Option.bind_some, if_true, pLenD, pZipA, gd_eq hzl, hm, hall]
    simp
  | up _ ih => intro n hn; exact ih n (by omega)
theorem same_ints (l : List Int) (h : l.length ≤ 100000) : P_w_same 6 (eL eI l) (eL eI l) = some true :=
  same_some (.lst (k := 0) (by rw [List.length_map]; exact h) fun d hd => by
    obtain ⟨i, _, rfl⟩ := List.mem_map.mp hd
    exact .int i) 6 (by omega)
open TL
/-! numbers' texts -/
abbrev U (s : Nat) : Str := ⟨#[s]⟩
def dg (q : Int) : Str := Str.ofString (toString q)
theorem dg_tl {q : Int} (h : 0 ≤ q) : tl (dg q) = numL q.toNat := by
  have : q = ((q.toNat : Nat) : Int) := by omega
  unfold dg
  rw [this]
  exact tl_num _
theorem dg_len {q : Int} (h0 : 0 ≤ q) (h1 : q < 10 ^ 18) : 1 ≤ (dg q).length ∧ (dg q).length ≤ 18 := by
  rw [len_tl, dg_tl h0]
  refine ⟨?_, numL_len (by decide) (by omega)⟩
  have := numL_ne q.toNat
  cases h : numL q.toNat with
  | nil => exact absurd h this
  | cons x l => simp
theorem log2_big {v : Int} (h0 : 0 ≤ v) (h1 : v < 10 ^ 18) : v.natAbs.log2 < 1920 := by
  by_cases hv : v.natAbs = 0
  · rw [hv]
    decide
  · rw [Nat.log2_lt hv]
    have : v.natAbs < 2 ^ 60 := by omega
    exact Nat.lt_of_lt_of_le this (Nat.pow_le_pow_right (by omega) (by omega))
theorem str_dg {v : Int} (h0 : 0 ≤ v) (h1 : v < 10 ^ 18) : pStr v = some (dg v) := if_pos (log2_big h0 h1)
theorem numL_long : ∀ (k n : Nat), 10 ^ k ≤ n → k < (numL n).length
  | 0, n, _ => by
    have := numL_ne n
    cases h : numL n with
    | nil => exact absurd h this
    | cons x l => simp
  | k + 1, n, h => by
    have h10 : 10 ≤ n := by
      have : 1 ≤ 10 ^ k := Nat.one_le_pow _ _ (by omega)
      rw [Nat.pow_succ] at h
      omega
    rw [numL_step h10, List.length_append]
    have := numL_long k (n / 10) (by rw [Nat.pow_succ] at h; omega)
    simp
    omega
theorem numL_head : ∀ (n : Nat), 1 ≤ n → ∃ c l, numL n = c :: l ∧ c ≠ 48 := by
  intro n
  induction n using Nat.strongRecOn with
  | _ n ih =>
    intro h
    by_cases h10 : n < 10
    · exact ⟨_, _, numL_lt h10, by omega⟩
    · obtain ⟨c, l, e, hc⟩ := ih (n / 10) (by omega) (by omega)
      rw [numL_step (by omega), e]
      exact ⟨c, l ++ [48 + n % 10], rfl, hc⟩
theorem figs : ("0123456789" : Str).cps.toList = [48, 49, 50, 51, 52, 53, 54, 55, 56, 57] := by decide +kernel
theorem plain_dg {q : Int} (h0 : 0 ≤ q) (h1 : q < 10 ^ 18) : P_plain_number (dg q) = some (if q < 10 ^ 9 then some q else none) := by
  have hl := dg_len h0 h1
  unfold P_plain_number
  have e1 : pLenS (dg q) = some ((dg q).length : Int) := if_pos (by omega)
  rw [e1, Option.bind_some]
  by_cases hq : q < 10 ^ 9
  · have hl9 : (dg q).length ≤ 9 := by
      rw [len_tl, dg_tl h0]
      exact numL_len (by decide) (by omega)
    have c1 : (!(decide (1 ≤ ((dg q).length : Int)) && decide (((dg q).length : Int) ≤ 9))) = false := by
      rw [decide_eq_true (by omega), decide_eq_true (by omega)]
      rfl
    rw [c1, if_neg (by simp)]
    have hsl : (signs (dg q)).length = (dg q).length := by rw [len_tl]; simp [signs]
    rw [gd_eq (by omega), Option.bind_some]
    have e2 : mapO P_plain_number_l2 (signs (dg q)) = some ((signs (dg q)).map fun _ => true) := by
      refine mapO_eq fun x hx => ?_
      unfold signs at hx
      obtain ⟨c, hc, rfl⟩ := List.mem_map.mp hx
      have hc : c ∈ tl (dg q) := hc
      rw [dg_tl h0] at hc
      have hd := numL_digits q.toNat c hc
      unfold P_plain_number_l2
      have : pInS false ⟨#[c]⟩ "0123456789" = some (false ^^ decide (c ∈ ("0123456789" : Str).cps.toList)) := rfl
      rw [this, figs]
      have : decide (c ∈ [48, 49, 50, 51, 52, 53, 54, 55, 56, 57]) = true := by
        rw [decide_eq_true_eq]
        simp only [List.mem_cons, List.mem_nil_iff, or_false]
        omega
      rw [this]
      rfl
    rw [e2, Option.bind_some]
    have e3 : ((signs (dg q)).map fun _ => true).all id = true := all_trues fun b hb => by
      obtain ⟨_, _, rfl⟩ := List.mem_map.mp hb
      rfl
    rw [e3, Option.bind_some, if_neg (by simp)]
    have e4 : pIntS (dg q) = some q := by
      unfold pIntS
      rw [if_pos (by omega)]
      have := int_num (n := q.toNat) (Nat.le_trans (numL_len (k := 18) (by decide) (by omega)) (by decide))
      unfold dg
      have hq' : ((q.toNat : Nat) : Int) = q := by omega
      rw [hq'] at this
      exact this
    have h48 : ("0" : Str) = ⟨#[48]⟩ := by decide +kernel
    by_cases hz : q = 0
    · subst hz
      have : dg 0 = "0" := by decide +kernel
      rw [e4, this]
      have e5 : pIxS "0" 0 = some "0" := by decide +kernel
      rw [e5]
      rfl
    · obtain ⟨c, l, e, hc⟩ := numL_head q.toNat (by omega)
      have e5 : pIxS (dg q) 0 = some ⟨#[c]⟩ := by
        unfold pIxS
        rw [if_pos (by omega)]
        have : (dg q).cps.toList = c :: l := (dg_tl h0).trans e
        rw [this]
        have : pIx (c :: l) 0 = some c := ix_eq (by omega) rfl
        unfold pIx at this
        rw [this]
        rfl
      rw [e5, Option.bind_some]
      have : ¬ (⟨#[c]⟩ : Str) = "0" := fun z => by
        rw [h48] at z
        injection z with z
        have := congrArg Array.toList z
        simp at this
        exact hc this
      rw [decide_eq_false this, if_neg (by simp), Option.bind_some, if_neg (by simp), e4, if_pos hq]
      rfl
  · have hl9 : 9 < (dg q).length := by
      rw [len_tl, dg_tl h0]
      exact numL_long 9 _ (by omega)
    have c1 : (!(decide (1 ≤ ((dg q).length : Int)) && decide (((dg q).length : Int) ≤ 9))) = true := by
      rw [decide_eq_false (p := ((dg q).length : Int) ≤ 9) (by omega), Bool.and_false]
      rfl
    rw [c1, if_pos rfl, Option.bind_some, if_pos rfl, if_neg hq]
/-! pieces -/
def pc (q : Int) (l : Str) : Str := if 1 ≤ q then dg q ++ l else ""
theorem pc_len {q : Int} {s : Nat} (h : q < 10 ^ 18) : (pc q (U s)).length ≤ 19 := by
  unfold pc
  split
  · have := (dg_len (q := q) (by omega) h).2
    rw [app_len]
    have : (U s).length = 1 := rfl
    omega
  · rw [emp_len]; omega
theorem pc_ne {q : Int} {s : Nat} (h1 : 1 ≤ q) : 1 ≤ (pc q (U s)).length := by
  unfold pc
  rw [if_pos h1, app_len]
  have : (U s).length = 1 := rfl
  omega
theorem pc_free {q : Int} {s k : Nat} (hk : 57 < k) (hs : k ≠ s) : k ∉ tl (pc q (U s)) := by
  unfold pc
  split
  · rw [tl_append, dg_tl (by omega)]
    intro h
    rcases List.mem_append.mp h with h | h
    · exact numL_free (.inr hk) h
    · have : k ∈ [s] := h
      simp at this
      exact hs this
  · intro h
    rw [emp_cps] at h
    cases h
theorem pc_ok {q : Int} {s : Nat} (h : s < 128) : PyData.strOk (pc q (U s)) = true := by
  unfold pc
  split
  · refine strOk_app (strOk_num q) ?_
    unfold PyData.strOk
    simp
    omega
  · decide +kernel
def tx (q1 q2 q3 : Int) (a b c : Nat) : Str := pc q1 (U a) ++ (pc q2 (U b) ++ pc q3 (U c))
def wt (q1 q2 q3 : Int) (a b c : Nat) : Str := if tx q1 q2 q3 a b c = "" then "0" ++ U c else tx q1 q2 q3 a b c
theorem app_as (x y z : Str) : x ++ y ++ z = x ++ (y ++ z) := ext_tl (by rw [tl_append, tl_append, tl_append, tl_append, List.append_assoc])
/-- one step of the text -/
theorem u_step {n w : Int} {s : Nat} {f : Str} (hn : 0 ≤ n ∧ n < 10 ^ 18) (hw : 0 < w ∧ w < 1000) (hf : f.length ≤ 1000) : P_units_text_b2 (U s, w) (f, n) = some (f ++ pc (n / w) (U s), n % w) := by
  have h0 : 0 ≤ n / w := Int.ediv_nonneg hn.1 (by omega)
  have h1 : n / w ≤ n := Int.ediv_le_self w hn.1
  have hl := dg_len h0 (by omega)
  have hs : (U s).length = 1 := rfl
  have hc : w ≤ n ↔ 1 ≤ n / w := by
    rw [Int.le_ediv_iff_mul_le hw.1]
    omega
  unfold P_units_text_b2 pc
  have e1 : pDiv n w = some (n / w) := div_eq (by omega)
  have e2 : pMod n w = some (n % w) := mod_eq (by omega)
  have e3 : pCatS (dg (n / w)) (U s) = some (dg (n / w) ++ U s) := catS_eq (by omega)
  by_cases hc' : w ≤ n
  · rw [if_pos (by simpa using hc'), if_pos (hc.mp hc')]
    simp only [e1, str_dg h0 (by omega), e3, Option.bind_some, e2]
    rw [catS_eq (by rw [app_len]; omega)]
    rfl
  · rw [if_neg (by simpa using hc'), if_neg (fun z => hc' (hc.mpr z)), app_emp]
    simp only [Option.bind_some, e2]
structure U3 (v w : Int) (a b c : Nat) : Prop where
  hv : 0 < v ∧ v < 1000
  hw : 0 < w ∧ w < 1000
  ha : 57 < a
  hb : 57 < b
  hc : 57 < c
  ha' : a < 128
  hb' : b < 128
  hc' : c < 128
  ab : a ≠ b
  ac : a ≠ c
  bc : b ≠ c
def wn (n v w : Int) (a b c : Nat) : Str := wt (n / v) (n % v / w) (n % v % w) a b c
section
variable {v w : Int} {a b c : Nat}
theorem U3.q (u : U3 v w a b c) {n : Int} (hn : 0 ≤ n ∧ n < 10 ^ 18) : (0 ≤ n / v ∧ n / v < 10 ^ 18) ∧ (0 ≤ n % v / w ∧ n % v / w < 1000) ∧ (0 ≤ n % v % w ∧ n % v % w < 1000) ∧ n = n / v * v + n % v / w * w + n % v % w := by
  have h1 := u.hv
  have h2 := u.hw
  have a1 : 0 ≤ n / v := Int.ediv_nonneg hn.1 (by omega)
  have a2 : n / v ≤ n := Int.ediv_le_self v hn.1
  have a3 := Int.emod_nonneg n (b := v) (by omega)
  have a4 := Int.emod_lt_of_pos n h1.1
  have a5 : 0 ≤ n % v / w := Int.ediv_nonneg a3 (by omega)
  have a6 : n % v / w ≤ n % v := Int.ediv_le_self w a3
  have a7 := Int.emod_nonneg (n % v) (b := w) (by omega)
  have a8 := Int.emod_lt_of_pos (n % v) h2.1
  refine ⟨⟨a1, by omega⟩, ⟨a5, by omega⟩, ⟨a7, by omega⟩, ?_⟩
  have e1 := Int.mul_ediv_add_emod n v
  have e2 := Int.mul_ediv_add_emod (n % v) w
  rw [Int.mul_comm] at e1 e2
  omega
theorem tx_len {q1 q2 q3 : Int} (h1 : q1 < 10 ^ 18) (h2 : q2 < 10 ^ 18) (h3 : q3 < 10 ^ 18) : (tx q1 q2 q3 a b c).length ≤ 57 := by
  have := pc_len (s := a) h1
  have := pc_len (s := b) h2
  have := pc_len (s := c) h3
  unfold tx
  rw [app_len, app_len]
  omega
theorem wt_len {q1 q2 q3 : Int} (h1 : q1 < 10 ^ 18) (h2 : q2 < 10 ^ 18) (h3 : q3 < 10 ^ 18) : (wt q1 q2 q3 a b c).length ≤ 57 := by
  unfold wt
  split
  · rw [app_len]
    have : ("0" : Str).length = 1 := by decide +kernel
    have : (U c).length = 1 := rfl
    omega
  · exact tx_len h1 h2 h3
theorem units_text (u : U3 v w a b c) {n : Int} (hn : 0 ≤ n ∧ n < 10 ^ 18) : P_units_text n [(U a, v), (U b, w), (U c, 1)] = some (wn n v w a b c) := by
  obtain ⟨g1, g2, g3, _⟩ := u.q hn
  have h1 := u.hv
  have h2 := u.hw
  have a3 := Int.emod_nonneg n (b := v) (by omega)
  have a4 := Int.emod_lt_of_pos n h1.1
  have l1 := pc_len (s := a) g1.2
  have l2 := pc_len (q := n % v / w) (s := b) (by omega)
  have l3 := pc_len (q := n % v % w) (s := c) (by omega)
  unfold P_units_text
  rw [Option.bind_some]
  have e : forP P_units_text_b2 [(U a, v), (U b, w), (U c, 1)] (("" : Str), n) = some (tx (n / v) (n % v / w) (n % v % w) a b c, n % v % w % 1) := by
    show (P_units_text_b2 (U a, v) ("", n)).bind _ = _
    rw [u_step hn h1 (by rw [emp_len]; omega), Option.bind_some, emp_app]
    show (P_units_text_b2 (U b, w) _).bind _ = _
    rw [u_step ⟨a3, by omega⟩ h2 (by omega), Option.bind_some]
    show (P_units_text_b2 (U c, 1) _).bind _ = _
    rw [u_step ⟨g3.1, by omega⟩ (by omega) (by rw [app_len]; omega), Option.bind_some, Int.ediv_one]
    unfold tx
    rw [app_as]
    rfl
  rw [e, Option.bind_some]
  unfold wn wt
  by_cases hz : tx (n / v) (n % v / w) (n % v % w) a b c = ""
  · rw [if_pos (by simpa using hz), if_pos hz]
    have e2 : pIx [(U a, v), (U b, w), (U c, (1 : Int))] (-1) = some (U c, 1) := rfl
    have e3 : pCatS "0" (U c) = some ("0" ++ U c) := catS_eq (by
      have : ("0" : Str).length = 1 := by decide +kernel
      have : (U c).length = 1 := rfl
      omega)
    rw [e2, Option.bind_some]
    show (pCatS "0" (U c)).bind _ = _
    rw [e3]
    rfl
  · rw [if_neg (by simpa using hz), if_neg hz]
/-! reading -/
theorem b_hit {q u found : Int} {s : Nat} {t : Str} (hs : 57 < s) (h0 : 0 ≤ q) (h1 : q < 10 ^ 18) (hu : 0 < u ∧ u < 1000) (ht : t.length ≤ 1000) :
    P_units_in_b2 (U s, u) (found, dg q ++ (U s ++ t)) = some (if q < 10 ^ 9 then .nx (found + q * u, t) else .rt none) := by
  have hl := dg_len h0 h1
  have hsl : (U s).length = 1 := rfl
  have e1 : pPartition (dg q ++ (U s ++ t)) (U s) = some (dg q, U s, t) := by
    unfold pPartition
    rw [if_pos ⟨rfl, by rw [app_len, app_len]; omega⟩, ← app_as, partition_app (y := U s) (s := s) (S := []) rfl]
    rw [dg_tl h0]
    exact numL_free (.inr hs)
  unfold P_units_in_b2
  rw [e1, Option.bind_some]
  dsimp only
  rw [decide_eq_true rfl, if_pos rfl, plain_dg h0 h1, Option.bind_some]
  by_cases hq : q < 10 ^ 9
  · rw [if_pos hq, if_pos hq]
    show (pMul q u).bind _ = _
    rw [mul_eq (.inr (by omega))]
    rfl
  · rw [if_neg hq, if_neg hq]
    rfl
theorem b_miss {u found : Int} {s : Nat} {t : Str} (h : s ∉ tl t) (ht : t.length ≤ 1000) : P_units_in_b2 (U s, u) (found, t) = some (.nx (found, t)) := by
  have e1 : pPartition t (U s) = some (t, Str.empty, Str.empty) := by
    unfold pPartition
    rw [if_pos ⟨rfl, by omega⟩, partition_none (y := U s) (s := s) (S := []) rfl h]
  unfold P_units_in_b2
  rw [e1, Option.bind_some]
  dsimp only
  have : ¬ Str.empty = U s := fun z => by
    have := congrArg (fun x : Str => x.cps.toList) z
    cases this
  rw [decide_eq_false this, if_neg (by simp)]
theorem b_pc {q u found : Int} {s : Nat} {t : Str} (hs : 57 < s) (hst : s ∉ tl t) (h0 : 0 ≤ q) (h1 : q < 10 ^ 18) (hu : 0 < u ∧ u < 1000) (ht : t.length ≤ 1000) :
    P_units_in_b2 (U s, u) (found, pc q (U s) ++ t) = some (if q < 10 ^ 9 then .nx (found + q * u, t) else .rt none) := by
  unfold pc
  by_cases hq : 1 ≤ q
  · rw [if_pos hq, app_as]
    exact b_hit hs h0 h1 hu ht
  · have : q = 0 := by omega
    subst this
    rw [if_neg (by omega), emp_app, b_miss hst ht, if_pos (by omega), Int.zero_mul, Int.add_zero]
theorem tx_ne {q1 q2 q3 : Int} (h : 1 ≤ q1 ∨ 1 ≤ q2 ∨ 1 ≤ q3) : ¬ tx q1 q2 q3 a b c = "" := by
  refine len_emp ?_
  unfold tx
  rw [app_len, app_len]
  rcases h with h | h | h
  · have := pc_ne (s := a) h; omega
  · have := pc_ne (s := b) h; omega
  · have := pc_ne (s := c) h; omega
theorem units_in (u : U3 v w a b c) {n : Int} (hn : 1 ≤ n ∧ n < 10 ^ 18) : P_units_in (wn n v w a b c) [(U a, v), (U b, w), (U c, 1)] = some (if n / v < 10 ^ 9 then some n else none) := by
  obtain ⟨g1, g2, g3, g4⟩ := u.q (n := n) ⟨by omega, hn.2⟩
  have h1 := u.hv
  have h2 := u.hw
  have l2 := pc_len (q := n % v / w) (s := b) (by omega)
  have l3 := pc_len (q := n % v % w) (s := c) (by omega)
  have hne : ¬ tx (n / v) (n % v / w) (n % v % w) a b c = "" := by
    refine tx_ne ?_
    by_cases z1 : 1 ≤ n / v
    · exact .inl z1
    · by_cases z2 : 1 ≤ n % v / w
      · exact .inr (.inl z2)
      · have e1 : n / v = 0 := by omega
        have e2 : n % v / w = 0 := by omega
        rw [e1, e2] at g4
        omega
  have ew : wn n v w a b c = tx (n / v) (n % v / w) (n % v % w) a b c := if_neg hne
  have hut := units_text u (n := n) ⟨by omega, hn.2⟩
  unfold P_units_in
  rw [ew] at hut ⊢
  have f1 : a ∉ tl (pc (n % v / w) (U b) ++ pc (n % v % w) (U c)) := by
    rw [tl_append]
    intro h
    rcases List.mem_append.mp h with h | h
    · exact pc_free u.ha u.ab h
    · exact pc_free u.ha u.ac h
  have f2 : b ∉ tl (pc (n % v % w) (U c)) := pc_free u.hb u.bc
  have f3 : c ∉ tl ("" : Str) := by
    rw [emp_cps]
    intro h
    cases h
  have s1 : P_units_in_b2 (U a, v) (0, tx (n / v) (n % v / w) (n % v % w) a b c) = _ := b_pc (found := 0) u.ha f1 g1.1 g1.2 h1 (by rw [app_len]; omega)
  have s2 : P_units_in_b2 (U b, w) (0 + n / v * v, pc (n % v / w) (U b) ++ pc (n % v % w) (U c)) = _ := b_pc (found := 0 + n / v * v) u.hb f2 g2.1 (by omega) h2 (by omega)
  have s3 : P_units_in_b2 (U c, 1) (0 + n / v * v + n % v / w * w, pc (n % v % w) (U c) ++ "") = _ := b_pc (found := 0 + n / v * v + n % v / w * w) (u := 1) u.hc f3 g3.1 (by omega) (by omega) (by rw [emp_len]; omega)
  rw [app_emp] at s3
  rw [if_pos (by omega)] at s2 s3
  have e : forR P_units_in_b2 [(U a, v), (U b, w), (U c, 1)] (0, tx (n / v) (n % v / w) (n % v % w) a b c) = some (if n / v < 10 ^ 9 then .nx (n, "") else .rt none) := by
    unfold forR
    rw [s1, Option.bind_some]
    by_cases hq : n / v < 10 ^ 9
    · rw [if_pos hq, if_pos hq]
      dsimp only
      unfold forR
      rw [s2, Option.bind_some]
      dsimp only
      unfold forR
      rw [s3, Option.bind_some]
      dsimp only
      unfold forR
      have : 0 + n / v * v + n % v / w * w + n % v % w * 1 = n := by omega
      rw [this]
    · rw [if_neg hq, if_neg hq]
  rw [e, Option.bind_some]
  by_cases hq : n / v < 10 ^ 9
  · rw [if_pos hq, if_pos hq]
    show ((if decide (("" : Str) = "") = true then _ else _ : Option Bool)).bind _ = _
    rw [decide_eq_true rfl, if_pos rfl]
    dsimp only
    rw [hut, Option.bind_some, decide_eq_true rfl]
    rfl
  · rw [if_neg hq, if_neg hq]
    rfl
/-! no two alike -/
theorem part_pc {q : Int} {s : Nat} {t : Str} (hs : 57 < s) (hst : s ∉ tl t) : Txt.partition (pc q (U s) ++ t) (U s) = if 1 ≤ q then (dg q, U s, t) else (t, Str.empty, Str.empty) := by
  unfold pc
  by_cases hq : 1 ≤ q
  · rw [if_pos hq, if_pos hq, partition_app (y := U s) (s := s) (S := []) rfl]
    rw [dg_tl (by omega)]
    exact numL_free (.inr hs)
  · rw [if_neg hq, if_neg hq, emp_app, partition_none (y := U s) (s := s) (S := []) rfl hst]
theorem dg_inj {q r : Int} (h0 : 0 ≤ q) (h1 : 0 ≤ r) (h : dg q = dg r) : q = r := by
  have := congrArg tl h
  rw [dg_tl h0, dg_tl h1] at this
  have := numL_inj this
  omega
theorem pc_inj {q r : Int} {s : Nat} {t t' : Str} (hs : 57 < s) (h1 : s ∉ tl t) (h2 : s ∉ tl t') (hq : 0 ≤ q) (hr : 0 ≤ r) (h : pc q (U s) ++ t = pc r (U s) ++ t') : q = r ∧ t = t' := by
  have hp := congrArg (fun x => Txt.partition x (U s)) h
  simp only [part_pc hs h1, part_pc hs h2] at hp
  have hne : ¬ Str.empty = U s := fun z => by
    have := congrArg (fun x : Str => x.cps.toList) z
    cases this
  by_cases a1 : 1 ≤ q
  · by_cases a2 : 1 ≤ r
    · rw [if_pos a1, if_pos a2] at hp
      injection hp with p1 p2
      injection p2 with p2 p3
      exact ⟨dg_inj hq hr p1, p3⟩
    · rw [if_pos a1, if_neg a2] at hp
      injection hp with p1 p2
      injection p2 with p2 p3
      exact absurd p2.symm hne
  · by_cases a2 : 1 ≤ r
    · rw [if_neg a1, if_pos a2] at hp
      injection hp with p1 p2
      injection p2 with p2 p3
      exact absurd p2 hne
    · rw [if_neg a1, if_neg a2] at hp
      injection hp with p1 p2
      exact ⟨by omega, p1⟩
theorem tx_inj (u : U3 v w a b c) {q1 q2 q3 r1 r2 r3 : Int} (hq : 0 ≤ q1 ∧ 0 ≤ q2 ∧ 0 ≤ q3) (hr : 0 ≤ r1 ∧ 0 ≤ r2 ∧ 0 ≤ r3) (h : tx q1 q2 q3 a b c = tx r1 r2 r3 a b c) : q1 = r1 ∧ q2 = r2 ∧ q3 = r3 := by
  have f1 : ∀ p r : Int, a ∉ tl (pc p (U b) ++ pc r (U c)) := fun p r => by
    rw [tl_append]
    intro h
    rcases List.mem_append.mp h with h | h
    · exact pc_free u.ha u.ab h
    · exact pc_free u.ha u.ac h
  have f3 : c ∉ tl ("" : Str) := by
    rw [emp_cps]
    intro h
    cases h
  obtain ⟨e1, h⟩ := pc_inj u.ha (f1 _ _) (f1 _ _) hq.1 hr.1 h
  obtain ⟨e2, h⟩ := pc_inj u.hb (pc_free u.hb u.bc) (pc_free u.hb u.bc) hq.2.1 hr.2.1 h
  rw [← app_emp (pc q3 (U c)), ← app_emp (pc r3 (U c))] at h
  exact ⟨e1, e2, (pc_inj u.hc f3 f3 hq.2.2 hr.2.2 h).1⟩
theorem wn_ne (u : U3 v w a b c) {n : Int} (hn : 1 ≤ n ∧ n < 10 ^ 18) (h1 : wn 1 v w a b c ≠ wn 0 v w a b c) : wn (n - 1) v w a b c ≠ wn n v w a b c := by
  by_cases hz : n = 1
  · subst hz
    exact fun h => h1 h.symm
  · have ne : ∀ m : Int, 1 ≤ m → m < 10 ^ 18 → wn m v w a b c = tx (m / v) (m % v / w) (m % v % w) a b c := fun m g0 gm => by
      obtain ⟨g1, g2, g3, g4⟩ := u.q (n := m) ⟨by omega, gm⟩
      refine if_neg (tx_ne ?_)
      by_cases z1 : 1 ≤ m / v
      · exact .inl z1
      · by_cases z2 : 1 ≤ m % v / w
        · exact .inr (.inl z2)
        · have e1 : m / v = 0 := by omega
          have e2 : m % v / w = 0 := by omega
          rw [e1, e2] at g4
          omega
    rw [ne n hn.1 hn.2, ne (n - 1) (by omega) (by omega)]
    intro h
    obtain ⟨g1, g2, g3, g4⟩ := u.q (n := n) ⟨by omega, hn.2⟩
    obtain ⟨k1, k2, k3, k4⟩ := u.q (n := n - 1) ⟨by omega, by omega⟩
    obtain ⟨e1, e2, e3⟩ := tx_inj u ⟨k1.1, k2.1, k3.1⟩ ⟨g1.1, g2.1, g3.1⟩ h
    rw [e1, e2, e3] at k4
    omega
end
/-! the law's own text -/
section
variable {v w : Int} {a b c : Nat}
theorem join3 (x y z : Str) : Txt.join "" [x, y, z] = x ++ (y ++ z) := by
  rw [join_eq]
  apply ext_tl
  rw [tl_join, tl_append, tl_append, emp_cps]
  rfl
theorem join2 (x y : Str) : Txt.join "" [x, y] = x ++ y := by
  rw [join_eq]
  apply ext_tl
  rw [tl_join, tl_append, emp_cps]
  rfl
theorem join1 (x : Str) : Txt.join "" [x] = x := by
  rw [join_eq]
  rfl
theorem l3_eq {q : Int} {s : Nat} (h0 : 0 ≤ q) (h1 : q < 10 ^ 18) : P_w_written_l3 (q, U s) = some (if 1 ≤ q then some (pc q (U s)) else none) := by
  have hl := dg_len h0 h1
  have hs : (U s).length = 1 := rfl
  unfold P_w_written_l3 pc
  by_cases hq : q = 0
  · subst hq
    rfl
  · have : 1 ≤ q := by omega
    rw [if_pos (by simpa using hq), if_pos this, if_pos this]
    simp only [str_dg h0 h1, Option.bind_some]
    rw [catS_eq (by omega)]
    rfl
theorem written_eq (u : U3 v w a b c) (hk : v / w = 8) {n : Int} (hn : 0 ≤ n ∧ n < 10 ^ 18) (hd : n % w = n % v % w) (hq : n / w % 8 = n % v / w) {l : Str} (hr : pRevS l = some (revS l)) (hs : signs (revS l) = [U c, U b, U a]) (hx : pIxS l (-1) = some (U c)) :
    P_w_written n (v, w) l = some (wn n v w a b c) := by
  obtain ⟨g1, g2, g3, g4⟩ := u.q hn
  have h1 := u.hv
  have h2 := u.hw
  unfold P_w_written
  rw [mod_eq h2.1, Option.bind_some, div_eq (by omega), Option.bind_some, div_eq (by omega), Option.bind_some, hk, mod_eq (by omega), Option.bind_some, div_eq (by omega), Option.bind_some, Option.bind_some, hr, Option.bind_some, hs, hd, hq]
  rw [gd_eq (by show 3 ≤ 100000; omega), Option.bind_some]
  have l1 := l3_eq (q := n % v % w) (s := c) g3.1 (by omega)
  have l2 := l3_eq (q := n % v / w) (s := b) g2.1 (by omega)
  have l3 := l3_eq (q := n / v) (s := a) g1.1 g1.2
  have p1 := pc_len (q := n % v % w) (s := c) (by omega)
  have p2 := pc_len (q := n % v / w) (s := b) (by omega)
  have p3 := pc_len (s := a) g1.2
  have ef : fmO P_w_written_l3 ([n % v % w, n % v / w, n / v].zip [U c, U b, U a]) = some ((if 1 ≤ n % v % w then [pc (n % v % w) (U c)] else []) ++ ((if 1 ≤ n % v / w then [pc (n % v / w) (U b)] else []) ++ (if 1 ≤ n / v then [pc (n / v) (U a)] else []))) := by
    show (P_w_written_l3 (n % v % w, U c)).bind _ = _
    rw [l1, Option.bind_some]
    show ((P_w_written_l3 (n % v / w, U b)).bind _).map _ = _
    rw [l2, Option.bind_some]
    show (((P_w_written_l3 (n / v, U a)).bind _).map _).map _ = _
    rw [l3, Option.bind_some]
    by_cases c1 : 1 ≤ n % v % w <;> by_cases c2 : 1 ≤ n % v / w <;> by_cases c3 : 1 ≤ n / v <;> simp [c1, c2, c3, fmO]
  rw [ef, Option.bind_some]
  have eqn : ∀ l : List Str, l ≠ [] → (∀ x ∈ l, PyData.strOk x = true) → pEq (eL eS) true l [] = some true := fun l h ho => by
    rw [eq_eq (α := List Str) (e := eL eS) (x := l) (y := []) (k := 1) (l := 1) (layL fun d hd => by
      obtain ⟨x, hx, rfl⟩ := List.mem_map.mp hd
      exact layS (ho x hx)) (layL fun d hd => by cases hd) (by omega) (by omega), decide_eq_false h]
    rfl
  have k1 := pc_ok (q := n % v % w) u.hc'
  have k2 := pc_ok (q := n % v / w) u.hb'
  have k3 := pc_ok (q := n / v) u.ha'
  have jn : ∀ l : List Str, (l.map (·.length)).sum ≤ 100000 → pJoin "" l = some (Txt.join "" l) := fun l h => by
    unfold pJoin
    rw [emp_len, Nat.mul_zero, Nat.add_zero, if_pos (by omega)]
  have z0 : ∀ q s, ¬ 1 ≤ q → pc q (U s) = "" := fun q s h => if_neg h
  have hne : (1 ≤ n / v ∨ 1 ≤ n % v / w ∨ 1 ≤ n % v % w) → wn n v w a b c = tx (n / v) (n % v / w) (n % v % w) a b c := fun h => if_neg (tx_ne h)
  by_cases c1 : 1 ≤ n % v % w <;> by_cases c2 : 1 ≤ n % v / w <;> by_cases c3 : 1 ≤ n / v
  · rw [hne (.inl c3), if_pos c1, if_pos c2, if_pos c3, eqn _ (by simp) (by simp [k1, k2, k3]), Option.bind_some, if_pos rfl, jn _ (by simp; omega)]
    exact congrArg some (join3 _ _ _)
  · rw [hne (.inr (.inl c2)), if_pos c1, if_pos c2, if_neg c3, eqn _ (by simp) (by simp [k1, k2, k3]), Option.bind_some, if_pos rfl, jn _ (by simp; omega)]
    unfold tx
    rw [z0 _ a c3, emp_app]
    exact congrArg some (join2 _ _)
  · rw [hne (.inl c3), if_pos c1, if_neg c2, if_pos c3, eqn _ (by simp) (by simp [k1, k2, k3]), Option.bind_some, if_pos rfl, jn _ (by simp; omega)]
    unfold tx
    rw [z0 _ b c2, emp_app]
    exact congrArg some (join2 _ _)
  · rw [hne (.inr (.inr c1)), if_pos c1, if_neg c2, if_neg c3, eqn _ (by simp) (by simp [k1, k2, k3]), Option.bind_some, if_pos rfl, jn _ (by simp; omega)]
    unfold tx
    rw [z0 _ b c2, emp_app, z0 _ a c3, emp_app]
    exact congrArg some (join1 _)
  · rw [hne (.inl c3), if_neg c1, if_pos c2, if_pos c3, eqn _ (by simp) (by simp [k1, k2, k3]), Option.bind_some, if_pos rfl, jn _ (by simp; omega)]
    unfold tx
    rw [z0 _ c c1, app_emp]
    exact congrArg some (join2 _ _)
  · rw [hne (.inr (.inl c2)), if_neg c1, if_pos c2, if_neg c3, eqn _ (by simp) (by simp [k1, k2, k3]), Option.bind_some, if_pos rfl, jn _ (by simp; omega)]
    unfold tx
    rw [z0 _ c c1, app_emp, z0 _ a c3, emp_app]
    exact congrArg some (join1 _)
  · rw [hne (.inl c3), if_neg c1, if_neg c2, if_pos c3, eqn _ (by simp) (by simp [k1, k2, k3]), Option.bind_some, if_pos rfl, jn _ (by simp; omega)]
    unfold tx
    rw [z0 _ c c1, z0 _ b c2, app_emp, app_emp]
    exact congrArg some (join1 _)
  · rw [if_neg c1, if_neg c2, if_neg c3]
    have e0 : pEq (eL eS) true ([] : List Str) [] = some false := by decide +kernel
    show (pEq (eL eS) true ([] : List Str) []).bind _ = _
    rw [e0, Option.bind_some, if_neg (by simp), hx, Option.bind_some, catS_eq (by have : ("0" : Str).length = 1 := by decide +kernel
                                                                                  have : (U c).length = 1 := rfl
                                                                                  omega)]
    unfold wn wt tx
    rw [z0 _ c c1, z0 _ b c2, z0 _ a c3, emp_app, emp_app, if_pos rfl]
    rfl
end
theorem uw : U3 112 14 99 115 112 := ⟨by omega, by omega, by omega, by omega, by omega, by omega, by omega, by omega, by omega, by omega, by omega⟩
theorem ul : U3 320 40 109 102 114 := ⟨by omega, by omega, by omega, by omega, by omega, by omega, by omega, by omega, by omega, by omega, by omega⟩
theorem vw_eq : v_WEIGHT_UNITS = [(U 99, 112), (U 115, 14), (U 112, 1)] := by decide +kernel
theorem vl_eq : v_LENGTH_UNITS = [(U 109, 320), (U 102, 40), (U 114, 1)] := by decide +kernel
abbrev ww (n : Int) : Str := wn n 112 14 99 115 112
abbrev wl (n : Int) : Str := wn n 320 40 109 102 114
theorem weight_text {n : Int} (hn : 0 ≤ n ∧ n < 10 ^ 18) : P_weight_text n = some (ww n) := by
  unfold P_weight_text
  rw [vw_eq, units_text uw hn]
  rfl
theorem length_text {n : Int} (hn : 0 ≤ n ∧ n < 10 ^ 18) : P_length_text n = some (wl n) := by
  unfold P_length_text
  rw [vl_eq, units_text ul hn]
  rfl
theorem weight_0 : P_weight_in "0p" = some (some 0) := by decide +kernel
theorem length_0 : P_length_in "0r" = some (some 0) := by decide +kernel
theorem ww_0 : ww 0 = "0p" := by decide +kernel
theorem wl_0 : wl 0 = "0r" := by decide +kernel
theorem weight_in {n : Int} (hn : 0 ≤ n ∧ n < 10 ^ 18) : P_weight_in (ww n) = some (if n < 112 * 1000000000 then some n else none) := by
  by_cases h : n = 0
  · subst h
    rw [ww_0, weight_0]
    rfl
  · unfold P_weight_in
    rw [vw_eq, units_in uw ⟨by omega, hn.2⟩]
    by_cases hq : n < 112 * 1000000000
    · rw [if_pos hq, if_pos (by omega)]; rfl
    · rw [if_neg hq, if_neg (by omega)]; rfl
theorem length_in {n : Int} (hn : 0 ≤ n ∧ n < 10 ^ 18) : P_length_in (wl n) = some (if n < 320 * 1000000000 then some n else none) := by
  by_cases h : n = 0
  · subst h
    rw [wl_0, length_0]
    rfl
  · unfold P_length_in
    rw [vl_eq, units_in ul ⟨by omega, hn.2⟩]
    by_cases hq : n < 320 * 1000000000
    · rw [if_pos hq, if_pos (by omega)]; rfl
    · rw [if_neg hq, if_neg (by omega)]; rfl
theorem written_w {n : Int} (hn : 0 ≤ n ∧ n < 10 ^ 18) : P_w_written n (112, 14) "csp" = some (ww n) :=
  written_eq uw (by decide) hn (by omega) (by omega) (by decide +kernel) (by decide +kernel) (by decide +kernel)
theorem written_l {n : Int} (hn : 0 ≤ n ∧ n < 10 ^ 18) : P_w_written n (320, 40) "mfr" = some (wl n) :=
  written_eq ul (by decide) hn (by omega) (by omega) (by decide +kernel) (by decide +kernel) (by decide +kernel)
/-! the drawn numbers -/
theorem wide_wp {b : List Int} {n m : Int} (h : Bok b n) (hn : n + 10 < 2147483648) (hm : 0 < m) : Wp (P_w_wide b m) fun r => (0 ≤ r.1 ∧ r.1 < m) ∧ Bok r.2 (n + 4) := by
  unfold P_w_wide
  refine wp_be (rng_eq (by omega)) ?_
  refine wp_bind (wp_loop (I := fun j s => Bok s.1 (n + j)) (by simpa using h) ?_) fun s hs => ?_
  · intro j x s hx hs
    have hj := (List.getElem?_eq_some_iff.mp hx).1
    rw [rangeI_len] at hj
    unfold P_w_wide_b2
    refine wp_bind (take_wp hs (by omega) (by omega)) fun r hr => ?_
    refine wp_let ?_
    refine wp_some ?_
    have := hr.2
    have e : n + (j : Int) + 1 = n + ((j + 1 : Nat) : Int) := by omega
    rw [← e]
    exact this
  · refine wp_be (mod_eq hm) ?_
    refine wp_some ⟨⟨Int.emod_nonneg _ (by omega), Int.emod_lt_of_pos _ hm⟩, ?_⟩
    rw [rangeI_len] at hs
    exact hs
theorem number_wp {b : List Int} {n p q : Int} (h : Bok b n) (hn : n + 20 < 2147483648) (hp : 0 < p ∧ p < 1000) (hq : 0 < q ∧ q < 1000) : Wp (P_w_number b (p, q)) fun r => (0 ≤ r.1 ∧ r.1 < 10 ^ 17) ∧ Bok r.2 (n + 10) := by
  unfold P_w_number
  refine wp_bind (take_wp h (by omega) (by omega)) fun r1 h1 => ?_
  refine wp_bind (take_wp h1.2 (by omega) (by omega)) fun r2 h2 => ?_
  refine wp_ifd (fun c1 => ?_) (fun c1 => ?_)
  · refine wp_bind (take_wp h2.2 (by omega) (by omega)) fun r3 h3 => ?_
    exact wp_some ⟨⟨h3.1.1, by omega⟩, h3.2.mono (by omega)⟩
  · refine wp_ifd (fun c2 => ?_) (fun c2 => ?_)
    · refine wp_bind (R := fun t => 0 ≤ t ∧ t < 1000) ?_ fun t ht => ?_
      · obtain ⟨k, hk⟩ : ∃ k, k = r1.1 := ⟨_, rfl⟩
        have hk' : k = 1 ∨ k = 2 ∨ k = 3 := by omega
        rw [← hk]
        rcases hk' with z | z | z <;> subst z
        · exact ⟨1, rfl, by omega, by omega⟩
        · exact ⟨q, rfl, by omega, by omega⟩
        · exact ⟨p, rfl, by omega, by omega⟩
      · refine wp_bind (take_wp h2.2 (by omega) (by omega)) fun r3 h3 => ?_
        refine wp_be (mul_eq (.inr (by omega))) ?_
        have a1 : 0 ≤ t * r3.1 := Int.mul_nonneg ht.1 h3.1.1
        have a2 : t * r3.1 ≤ 1000 * 40 := Int.mul_le_mul (by omega) (by omega) h3.1.1 (by omega)
        refine wp_some ⟨?_, h3.2.mono (by omega)⟩
        dsimp only
        unfold maxI
        split <;> omega
    · refine wp_ifd (fun c3 => ?_) (fun c3 => ?_)
      · refine wp_bind (take_wp h2.2 (by omega) (by omega)) fun r3 h3 => ?_
        refine wp_bind (R := fun t => 0 ≤ t ∧ t < 1000) ?_ fun t ht => ?_
        · obtain ⟨k, hk⟩ : ∃ k, k = r3.1 := ⟨_, rfl⟩
          have hk' : k = 0 ∨ k = 1 ∨ k = 2 := by omega
          rw [← hk]
          rcases hk' with z | z | z <;> subst z
          · exact ⟨1, rfl, by omega, by omega⟩
          · exact ⟨q, rfl, by omega, by omega⟩
          · exact ⟨p, rfl, by omega, by omega⟩
        · refine wp_be (mul_eq (.inr (by omega))) ?_
          have a0 : r2.1 = 0 ∨ r2.1 = 1 ∨ r2.1 = 2 := by omega
          have a1 : (r2.1 - 1) * t ≤ 1000 := by rcases a0 with z | z | z <;> rw [z] <;> omega
          refine wp_some ⟨?_, h3.2.mono (by omega)⟩
          dsimp only
          unfold maxI
          split <;> omega
      · refine wp_ifd (fun c4 => ?_) (fun c4 => ?_)
        · refine wp_bind (take_wp h2.2 (by omega) (by omega)) fun r3 h3 => ?_
          exact wp_some ⟨⟨by dsimp only; omega, by dsimp only; omega⟩, h3.2.mono (by omega)⟩
        · refine wp_bind (wide_wp h2.2 (by omega) (by omega)) fun r3 h3 => ?_
          exact wp_some ⟨⟨h3.1.1, by have := h3.1.2; omega⟩, h3.2.mono (by omega)⟩
/-! the law -/
theorem sm_strs (l : List Str) (h : l.length ≤ 100000) : P_w_same 6 ((eL eS) l) ((eL eS) l) = some true :=
  same_some (k := 1) (.lst (by rw [List.length_map]; exact h) fun d hd => by
    obtain ⟨x, _, rfl⟩ := List.mem_map.mp hd
    exact .str x) 6 (by omega)
theorem sm_opts (l : List (Option Int)) (h : l.length ≤ 100000) : P_w_same 6 ((eL (eO eI)) l) ((eL (eO eI)) l) = some true :=
  same_some (k := 1) (.lst (by rw [List.length_map]; exact h) fun d hd => by
    obtain ⟨x, _, rfl⟩ := List.mem_map.mp hd
    cases x with
    | none => exact .non
    | some i => exact .int i) 6 (by omega)
theorem in_b {x : Int} {one other : Int} (h1 : 0 ≤ one ∧ one < 10 ^ 17) (h2 : 0 ≤ other ∧ other < 10 ^ 17) (bx : List Int) : P_w_right_b2 bx one other [ww one, wl other] x () = some (.nx ()) := by
  unfold P_w_right_b2
  rw [weight_text ⟨h1.1, by omega⟩, Option.bind_some, length_text ⟨h2.1, by omega⟩, Option.bind_some, sm_strs _ (by show 2 ≤ 100000; omega), Option.bind_some, if_neg (by simp), Option.bind_some]
  have e0 : pIx [ww one, wl other] 0 = some (ww one) := rfl
  have e1 : pIx [ww one, wl other] 1 = some (wl other) := rfl
  rw [e0, Option.bind_some, weight_in ⟨h1.1, by omega⟩, Option.bind_some, e1, Option.bind_some, length_in ⟨h2.1, by omega⟩, Option.bind_some]
  simp only [decide_eq_true_eq]
  rw [sm_opts _ (by show 2 ≤ 100000; omega), Option.bind_some, if_neg (by simp)]
theorem right_b {b : List Int} {n x : Int} (h : Bok b n) (hn : n + 100 < 2147483648) : Wp (P_w_right_b4 x b) fun w => ∃ b', w = .nx b' ∧ Bok b' (n + 20) := by
  unfold P_w_right_b4
  refine wp_bind (number_wp h (by omega) (by omega) (by omega)) fun r2 h2 => ?_
  refine wp_bind (number_wp h2.2 (by omega) (by omega) (by omega)) fun r3 h3 => ?_
  have a2 := h2.1
  have a3 := h3.1
  refine wp_be (written_w ⟨a2.1, by omega⟩) ?_
  refine wp_be (written_l ⟨a3.1, by omega⟩) ?_
  refine wp_let ?_
  refine wp_be (rng_eq (by omega)) ?_
  have e : ∀ (l : List Int), forR (P_w_right_b2 r3.2 r2.1 r3.1 [ww r2.1, wl r3.1]) l () = some (.nx ()) := fun l => by
    induction l with
    | nil => rfl
    | cons y l ih =>
      unfold forR
      rw [in_b a2 a3, Option.bind_some]
      exact ih
  refine wp_be (e _) ?_
  simp only [Fw.on]
  have e0 : pIx [ww r2.1, wl r3.1] 0 = some (ww r2.1) := rfl
  have e1 : pIx [ww r2.1, wl r3.1] 1 = some (wl r3.1) := rfl
  refine wp_be (v := false) ?_ ?_
  · by_cases c : 0 < r2.1
    · rw [if_pos (by simpa using c), weight_text ⟨by omega, by omega⟩, Option.bind_some, e0, Option.bind_some, decide_eq_false (wn_ne uw ⟨by omega, by omega⟩ (by decide +kernel))]
    · rw [if_neg (by simpa using c)]
  refine wp_be (v := false) ?_ ?_
  · rw [if_neg (by simp)]
    by_cases c : 0 < r3.1
    · rw [if_pos (by simpa using c), length_text ⟨by omega, by omega⟩, Option.bind_some, e1, Option.bind_some, decide_eq_false (wn_ne ul ⟨by omega, by omega⟩ (by decide +kernel))]
      rfl
    · rw [if_neg (by simpa using c)]
      rfl
  rw [if_neg (by simp)]
  exact wp_some ⟨_, rfl, h3.2.mono (by omega)⟩
theorem right_wp {b : List Int} (h : Bok b 0) : Wp (P_w_right b) fun r => r.1 = true := by
  unfold P_w_right
  refine wp_be (rng_eq (by omega)) ?_
  refine wp_bind (wp_loopR (I := fun j s => Bok s (20 * j)) (by simpa using h) ?_) fun s hs => ?_
  · intro j x s hx hs
    have hj := (List.getElem?_eq_some_iff.mp hx).1
    rw [rangeI_len] at hj
    refine wp_mono (right_b hs (by omega)) fun w hw => ?_
    obtain ⟨b', rfl, hb⟩ := hw
    refine ⟨b', rfl, ?_⟩
    have e : (20 : Int) * ((j : Nat) : Int) + 20 = 20 * ((j + 1 : Nat) : Int) := by omega
    rw [← e]
    exact hb
  · obtain ⟨s', rfl, _⟩ := hs
    exact wp_some rfl
theorem law_P (ns : List Int) (h63 : ns.length ≤ 63) : P_law ns = some true := by
  suffices h : Wp (P_law ns) fun r => r = true by
    obtain ⟨r, e, rfl⟩ := h
    exact e
  unfold P_law
  refine wp_bind (folded_wp ns h63 6 (by omega)) fun cs hc => ?_
  refine wp_be (weight_text (n := 0) (by omega)) ?_
  refine wp_be (length_text (n := 0) (by omega)) ?_
  refine wp_be weight_0 ?_
  refine wp_be length_0 ?_
  rw [ww_0, wl_0]
  refine wp_be (v := false) ?_ ?_
  · decide +kernel
  rw [if_neg (by simp)]
  refine wp_be (rng_eq (by unfold maxI; split <;> omega)) ?_
  refine wp_bind (wp_gd (by rw [rangeI_len]; unfold maxI; split <;> omega) (Q := fun _ => True) trivial) fun _ _ => ?_
  refine wp_bind (R := fun l => ∀ b ∈ l, b = true) ?_ fun l hl => wp_some (all_trues hl)
  refine wp_mono (mapO_wp (fun b => b = true) fun x hx => ?_) fun l hl => hl.2
  have hx := rangeI_mem hx
  unfold P_law_l2
  refine wp_bind (box_wp cs x hx.1) fun b hb => ?_
  exact wp_bind (right_wp hb) fun r hr => wp_some hr
theorem law_true (ns : List Int) (h63 : ns.length ≤ 63) : ∃ outs, fm_law [.scr ns] = some (.dat (.bool true), outs) := by
  rw [q_law, law_P ns h63]
  exact ⟨_, rfl⟩
end Lw
namespace Lw
open PySem PySem.Spec PyProof.Rows L2 Cm
def d_w_folded : He.DefD := ⟨("_law_folded", none), "_law_folded", "_law_folded", defArgs s_w_folded, defBody s_w_folded, defScope s_w_folded, [], []⟩
def d_units_text : He.DefD := ⟨("units_text", none), "units_text", "units_text", defArgs s_units_text, defBody s_units_text, defScope s_units_text, [], []⟩
def d_weight_text : He.DefD := ⟨("weight_text", none), "weight_text", "weight_text", defArgs s_weight_text, defBody s_weight_text, defScope s_weight_text, [], []⟩
def d_length_text : He.DefD := ⟨("length_text", none), "length_text", "length_text", defArgs s_length_text, defBody s_length_text, defScope s_length_text, [], []⟩
def d_plain_number : He.DefD := ⟨("plain_number", none), "plain_number", "plain_number", defArgs s_plain_number, defBody s_plain_number, defScope s_plain_number, [], []⟩
def d_units_in : He.DefD := ⟨("units_in", none), "units_in", "units_in", defArgs s_units_in, defBody s_units_in, defScope s_units_in, [], []⟩
def d_weight_in : He.DefD := ⟨("weight_in", none), "weight_in", "weight_in", defArgs s_weight_in, defBody s_weight_in, defScope s_weight_in, [], []⟩
def d_length_in : He.DefD := ⟨("length_in", none), "length_in", "length_in", defArgs s_length_in, defBody s_length_in, defScope s_length_in, [], []⟩
def d_w_box : He.DefD := ⟨("_law_box", none), "_law_box", "_law_box", defArgs s_w_box, defBody s_w_box, defScope s_w_box, [], []⟩
def d_w_take : He.DefD := ⟨("_law_take", none), "_law_take", "_law_take", defArgs s_w_take, defBody s_w_take, defScope s_w_take, [], []⟩
def d_w_wide : He.DefD := ⟨("_law_wide", none), "_law_wide", "_law_wide", defArgs s_w_wide, defBody s_w_wide, defScope s_w_wide, [], []⟩
def d_w_number : He.DefD := ⟨("_law_number", none), "_law_number", "_law_number", defArgs s_w_number, defBody s_w_number, defScope s_w_number, [], []⟩
def d_w_written : He.DefD := ⟨("_law_written", none), "_law_written", "_law_written", defArgs s_w_written, defBody s_w_written, defScope s_w_written, [], []⟩
def d_w_same : He.DefD := ⟨("_law_same", none), "_law_same", "_law_same", defArgs s_w_same, defBody s_w_same, defScope s_w_same, [], []⟩
def d_w_right : He.DefD := ⟨("_law_right", none), "_law_right", "_law_right", defArgs s_w_right, defBody s_w_right, defScope s_w_right, [], []⟩
def d_law : He.DefD := ⟨("law", none), "law", "law", defArgs s_law, defBody s_law, defScope s_law, [], []⟩
def fn : List He.DefD := [d_w_folded, d_units_text, d_weight_text, d_length_text, d_plain_number, d_units_in, d_weight_in, d_length_in, d_w_box, d_w_take, d_w_wide, d_w_number, d_w_written, d_w_same, d_w_right, d_law]
def fa : List He.Fa := [.glo "_law_folded", .glo "units_text", .glo "weight_text", .glo "length_text", .glo "plain_number", .glo "units_in", .glo "weight_in", .glo "length_in", .glo "_law_box", .glo "_law_take", .glo "_law_wide", .glo "_law_number", .glo "_law_written", .glo "_law_same", .glo "_law_right", .glo "law", .free "abs", .free "all", .free "bool", .free "enumerate", .free "int", .free "isinstance", .free "len", .free "list", .free "max", .free "range", .free "str", .free "tuple", .free "zip", .str "FIGURES" "0123456789", .glo "LENGTH_UNITS", .int "MOST_FIGURES" 9, .glo "WEIGHT_UNITS"]
abbrev R : PySem.W.OpenRow := PySem.W.OpenLaw.row PySem.Challenge.rw_campcarry_k01_measures_written
def dsC : List (Str × PyData) := [("LENGTH_UNITS", c_LENGTH_UNITS), ("WEIGHT_UNITS", c_WEIGHT_UNITS)]
def kdC : List (Str × List (Str × PyData)) := []
abbrev hk : PySem.W.Hook := Cm.hookX 4 fa fn dsC kdC
def ob (s : PySem.W.SharedT) : Cm.AlX := Cm.obsXG 4 fa fn dsC kdC (HandSHeadRun.getT s)
theorem ob_eq (s : PySem.W.SharedT) : ob s = hk.obs s.abs := Cm.obsXG_eq (HandSHeadRun.getT_eq s)
set_option maxHeartbeats 0 in
theorem runK (b : Bool) (w : World) : HandSHeadRun.RunEq R (PySem.W.view R.prog [21]) hk ob 3000 ["FIGURES", "MOST_FIGURES", "WEIGHT_UNITS", "LENGTH_UNITS", "plain_number", "units_text", "units_in", "weight_text", "weight_in", "length_text", "length_in", "_law_box", "_law_take", "_law_folded", "_law_wide", "_law_same", "_law_number", "_law_written", "_law_right"] (Cm.fixW b w) := by
  intro os
  cases b
  · kernel_rfl
  · kernel_rfl
theorem run (w : World) : HandSHeadRun.RunEq R (PySem.W.view R.prog [21]) hk ob 3000 ["FIGURES", "MOST_FIGURES", "WEIGHT_UNITS", "LENGTH_UNITS", "plain_number", "units_text", "units_in", "weight_text", "weight_in", "length_text", "length_in", "_law_box", "_law_take", "_law_folded", "_law_wide", "_law_same", "_law_number", "_law_written", "_law_right"] w := by
  have h := runK (w.params.followText "special-get-raises") w
  rw [Cm.fixW_eq] at h
  exact h
theorem facts {P : Program} {w : World} {K : PySem.W.Frag} {h : Heap} {mg : Str → Option Value} {f : Addr} (X : K.In h) (G : h.Ns mainGlobals mg) (hfa : mg ("law" : Str) = some (.ref f)) (cX : Cm.SaysX fa fn dsC kdC w K) :
    ∃ fd : FuncData, (∀ (s : Shared) (v : Value), BindsTo s fd ⟨[v], []⟩ [("_law_script", v)]) ∧ ∀ base : Heap, K.In base → base.Ns mainGlobals mg → FnOk P w K mg base CX0 9 f fd ["_law_script"] (spLaw K) := by
  have c := cX.d
  obtain ⟨f0, F0⟩ := c.def_ 0 (d := d_w_folded) rfl
  obtain ⟨f1, F1⟩ := c.def_ 1 (d := d_units_text) rfl
  obtain ⟨f2, F2⟩ := c.def_ 2 (d := d_weight_text) rfl
  obtain ⟨f3, F3⟩ := c.def_ 3 (d := d_length_text) rfl
  obtain ⟨f4, F4⟩ := c.def_ 4 (d := d_plain_number) rfl
  obtain ⟨f5, F5⟩ := c.def_ 5 (d := d_units_in) rfl
  obtain ⟨f6, F6⟩ := c.def_ 6 (d := d_weight_in) rfl
  obtain ⟨f7, F7⟩ := c.def_ 7 (d := d_length_in) rfl
  obtain ⟨f8, F8⟩ := c.def_ 8 (d := d_w_box) rfl
  obtain ⟨f9, F9⟩ := c.def_ 9 (d := d_w_take) rfl
  obtain ⟨f10, F10⟩ := c.def_ 10 (d := d_w_wide) rfl
  obtain ⟨f11, F11⟩ := c.def_ 11 (d := d_w_number) rfl
  obtain ⟨f12, F12⟩ := c.def_ 12 (d := d_w_written) rfl
  obtain ⟨f13, F13⟩ := c.def_ 13 (d := d_w_same) rfl
  obtain ⟨f14, F14⟩ := c.def_ 14 (d := d_w_right) rfl
  obtain ⟨f15, F15⟩ := c.def_ 15 (d := d_law) rfl
  have e := hfa.symm.trans (He.glo_ok X G (c.fact 15 (f := .glo "law") rfl))
  cases e
  have b := FunD.bindsA (ps := ["_law_script"]) F15 fun _ _ _ _ _ _ us hl => match us, hl with | [_], _ => rfl
  have T : Tx w K mg (fun k => ([f0, f1, f2, f3, f4, f5, f6, f7, f8, f9, f10, f11, f12, f13, f14, f15] : List FuncData).getD k f0) := ⟨F0, He.glo_ok X G (c.fact 0 (f := .glo "_law_folded") rfl), F1, He.glo_ok X G (c.fact 1 (f := .glo "units_text") rfl), F2, He.glo_ok X G (c.fact 2 (f := .glo "weight_text") rfl), F3, He.glo_ok X G (c.fact 3 (f := .glo "length_text") rfl), F4, He.glo_ok X G (c.fact 4 (f := .glo "plain_number") rfl), F5, He.glo_ok X G (c.fact 5 (f := .glo "units_in") rfl), F6, He.glo_ok X G (c.fact 6 (f := .glo "weight_in") rfl), F7, He.glo_ok X G (c.fact 7 (f := .glo "length_in") rfl), F8, He.glo_ok X G (c.fact 8 (f := .glo "_law_box") rfl), F9, He.glo_ok X G (c.fact 9 (f := .glo "_law_take") rfl), F10, He.glo_ok X G (c.fact 10 (f := .glo "_law_wide") rfl), F11, He.glo_ok X G (c.fact 11 (f := .glo "_law_number") rfl), F12, He.glo_ok X G (c.fact 12 (f := .glo "_law_written") rfl), F13, He.glo_ok X G (c.fact 13 (f := .glo "_law_same") rfl), F14, He.glo_ok X G (c.fact 14 (f := .glo "_law_right") rfl), F15, He.glo_ok X G (c.fact 15 (f := .glo "law") rfl), He.free_ok X G (c.fact 16 (f := .free "abs") rfl), He.free_ok X G (c.fact 17 (f := .free "all") rfl), He.free_ok X G (c.fact 18 (f := .free "bool") rfl), He.free_ok X G (c.fact 19 (f := .free "enumerate") rfl), He.free_ok X G (c.fact 20 (f := .free "int") rfl), He.free_ok X G (c.fact 21 (f := .free "isinstance") rfl), He.free_ok X G (c.fact 22 (f := .free "len") rfl), He.free_ok X G (c.fact 23 (f := .free "list") rfl), He.free_ok X G (c.fact 24 (f := .free "max") rfl), He.free_ok X G (c.fact 25 (f := .free "range") rfl), He.free_ok X G (c.fact 26 (f := .free "str") rfl), He.free_ok X G (c.fact 27 (f := .free "tuple") rfl), He.free_ok X G (c.fact 28 (f := .free "zip") rfl), He.str_ok X G (c.fact 29 (f := .str "FIGURES" "0123456789") rfl), ⟨He.glo_ok X G (c.fact 30 (f := .glo "LENGTH_UNITS") rfl), fun H => cX.dat 0 (p := ("LENGTH_UNITS", c_LENGTH_UNITS)) rfl H⟩, He.int_ok X G (c.fact 31 (f := .int "MOST_FIGURES" 9) rfl), ⟨He.glo_ok X G (c.fact 32 (f := .glo "WEIGHT_UNITS") rfl), fun H => cX.dat 1 (p := ("WEIGHT_UNITS", c_WEIGHT_UNITS)) rfl H⟩⟩
  exact ⟨_, fun s v => b s [v] rfl, fun base _ _ => (ok_law T).imp (law_imp law_true)⟩
end Lw
open PySem PySem.W PySem.Calls PyProof.Rows
set_option maxHeartbeats 0 in
theorem PySem.Challenge.cw_campcarry_k01_measures_written_holds : PySem.Challenge.rw_campcarry_k01_measures_written.Holds := by
  w_on; o_law
  refine HandSHeadRun.head_any (r := OpenLaw.row PySem.Challenge.rw_campcarry_k01_measures_written) (q := view (OpenLaw.row PySem.Challenge.rw_campcarry_k01_measures_written).prog [21]) (H := Lw.hk) (ob := Lw.ob) (M := 3000) (loose := ["FIGURES", "MOST_FIGURES", "WEIGHT_UNITS", "LENGTH_UNITS", "plain_number", "units_text", "units_in", "weight_text", "weight_in", "length_text", "length_in", "_law_box", "_law_take", "_law_folded", "_law_wide", "_law_same", "_law_number", "_law_written", "_law_right"]) (d := HandSHeadRun.topDef (OpenLaw.row PySem.Challenge.rw_campcarry_k01_measures_written).prog 21) (kwd := []) Lw.ob_eq
    (by kernel_rfl) (fun s => by kernel_rfl) Lw.run (by kernel_rfl) (by kernel_rfl) (by kernel_rfl) (by rfl) (by first | assumption | decide +kernel) (by decide +kernel) ⟨rfl, rfl, rfl, rfl, rfl, by decide +kernel⟩ ?hw ?hc
  case hw => w_witness2
  case hc =>
    refine L2.walk_ofE (l := PySem.Challenge.rw_campcarry_k01_measures_written) (n := 63) (k := 9) (x := "_law_script") (CX := L2.CX0) rfl (by decide) (by kernel_rfl) ⟨rfl, by decide, by decide⟩ ?F (fun _ _ _ _ z => z)
    intro w mg fa h Y G hmg0
    obtain ⟨K, KX, c⟩ := Y
    have hmg : mg ("law" : PySem.Str) = some (.ref fa) := by
      have e : (HandSHeadRun.topDef (OpenLaw.row PySem.Challenge.rw_campcarry_k01_measures_written).prog 21).name = ("law" : PySem.Str) := by kernel_rfl
      rw [← e]
      exact hmg0
    obtain ⟨fd, hb, hF⟩ := Lw.facts (P := (PySem.Challenge.rw_campcarry_k01_measures_written).prog) (w := w) KX G hmg c
    exact ⟨K, fd, Cm.spLaw K, KX, hb, fun H a ns hl _ hS => ⟨a, ns, rfl, hS, hl, fun _ => rfl⟩, hF⟩
