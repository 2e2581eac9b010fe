import PyProof.Rows.All
import Wide.All
import OpenK.AllK
import Wide.FinOn
import HandS.ForMost
import HandS.HeadHook1
import HandS.Lambda
import HandS.Exc
import HandS.Style
import HandS.Defaults
import HandS.IsInst
import HandS.SetFor
import HandS.More
import KE.KStateDown
import HandS.SortInts
import HandS.Conv
import HandS.Steps
import HandS.Zip
import HandS.Strs
import HandS.TupAny
import KE.DataMinMax
import HandS.Iter
import HandS.Dict
import KE.SortKeyHeap
import HandS.DictTup
import KE.KDictWalk
import HandS.SortKw
import HandS.HeadHook2
import HandS.Text
import PyProof.StrBlock2
import HandS.HeadEnd
import KE.GoesNew
import HandS.Wide
import PyProof.Rows.StrRev
import PyProof.SliceStr2
import PyProof.SumAny
import PyProof.SumWalkG
import PyProof.Rows.SeqMore
import HandS.SetKeys
import HandS.Flt
import HandS.Flow
import HandS.EndTab
import HandS.HeadWalk
import KE.KEqDict
import KE.KDictZip
import KE.DataFind
import KE.KDictSum
import KE.KExcIs
import HandS.ExcInit
import HandS.ExcIs
import HandS.ExcField
import HandS.ExcOwn
import HandS.Codes
import HandS.TryOnly
import HandS.Head0
import HandS.Head1
import HandS.Head2
import PySem.Challenge.RW_campcarry_k38_rows_of_least_effort
import Lean
import HandS.Ends
import HandS.Words
import HandS.WordsExc
set_option Elab.async false
set_option linter.all false
set_option maxRecDepth 100000
set_option maxHeartbeats 40000000
namespace Cm
open PySem L2
theorem same_tup {K : PySem.W.Frag} {H H' : Hp} {a : Addr} {xs : List V} (e : Same H H') (h : SqT K H a xs) : SqT K H' a xs := by
  rcases h with (h | ⟨o, h⟩) | h
  · exact .inl (.inl (e _ _ h))
  · exact .inl (.inr ⟨o, e _ _ h⟩)
  · exact .inr h
theorem same_rd {H H' : Hp} {a : Addr} {u : HO} (e : Same H H') (h : Rd H a u) : Rd H' a u := by
  rcases h with h | ⟨o, h⟩
  · exact .inl (e _ _ h)
  · exact .inr ⟨o, e _ _ h⟩
def keyD : Key → PyData
  | .inl i => .int i
  | .inr x => .str x
mutual
inductive Dv (K : PySem.W.Frag) (H : Hp) : V → PyData → Prop
  | non : Dv K H .non .none
  | bl (b : Bool) : Dv K H (.bl b) (.bool b)
  | int (i : Int) : Dv K H (.int i) (.int i)
  | str (x : Str) : Dv K H (.str x) (.str x)
  | lst {a : Addr} {xs : List V} {ds : List PyData} : H a = some (.lst xs) → DvAll K H xs ds → Dv K H (.ref a) (.list ds)
  | tup {a : Addr} {xs : List V} {ds : List PyData} : SqT K H a xs → DvAll K H xs ds → Dv K H (.ref a) (.tuple ds)
  | dct {a : Addr} {kvs : List (Key × V)} {es : List (PyData × PyData)} : Rd H a (.dK kvs) → DvKv K H kvs es → Dv K H (.ref a) (.dict es)
inductive DvAll (K : PySem.W.Frag) (H : Hp) : List V → List PyData → Prop
  | nil : DvAll K H [] []
  | cons {v : V} {vs : List V} {d : PyData} {ds : List PyData} : Dv K H v d → DvAll K H vs ds → DvAll K H (v :: vs) (d :: ds)
inductive DvKv (K : PySem.W.Frag) (H : Hp) : List (Key × V) → List (PyData × PyData) → Prop
  | nil : DvKv K H [] []
  | cons {k : Key} {v : V} {kvs : List (Key × V)} {d : PyData} {es : List (PyData × PyData)} : Dv K H v d → DvKv K H kvs es → DvKv K H ((k, v) :: kvs) ((keyD k, d) :: es)
end
mutual
theorem Dv.dp {K : PySem.W.Frag} {H : Hp} : ∀ (d : PyData) (v : V), Dv K H v d → d.canLay0 = true → Dp K H v d
  | .none, _, h, _ => by cases h; exact .non
  | .bool b, _, h, _ => by cases h; exact .bl b
  | .int i, _, h, _ => by cases h; exact .int i
  | .str x, _, h, _ => by cases h; exact .str x
  | .list ds, _, h, c => by
    cases h with
    | lst hs ha => exact .lst (SqL.of hs) (DvAll.dp ds _ ha (by simpa [PyData.canLay0] using c))
  | .tuple ds, _, h, c => by
    cases h with
    | tup hs ha => exact .tup hs (DvAll.dp ds _ ha (by simpa [PyData.canLay0] using c))
  | .dict _, _, h, c => by simp [PyData.canLay0] at c
theorem DvAll.dp {K : PySem.W.Frag} {H : Hp} : ∀ (ds : List PyData) (vs : List V), DvAll K H vs ds → PyData.canLayAll0 ds = true → DpAll K H vs ds
  | [], _, h, _ => by cases h; exact .nil
  | d :: ds, _, h, c => by
    have c' : d.canLay0 = true ∧ PyData.canLayAll0 ds = true := by simpa [PyData.canLayAll0] using c
    cases h with
    | cons h1 h2 => exact .cons (Dv.dp d _ h1 c'.1) (DvAll.dp ds _ h2 c'.2)
end
mutual
theorem dv_mono' {K : PySem.W.Frag} {H H' : Hp} (e : Same H H') : ∀ {v : V} {d : PyData}, Dv K H v d → Dv K H' v d
  | _, _, .non => .non
  | _, _, .bl b => .bl b
  | _, _, .int i => .int i
  | _, _, .str x => .str x
  | _, _, .lst h q => .lst (e _ _ h) (dvAll_mono' e q)
  | _, _, .tup h q => .tup (same_tup e h) (dvAll_mono' e q)
  | _, _, .dct h q => .dct (same_rd e h) (dvKv_mono e q)
theorem dvAll_mono' {K : PySem.W.Frag} {H H' : Hp} (e : Same H H') : ∀ {vs : List V} {ds : List PyData}, DvAll K H vs ds → DvAll K H' vs ds
  | _, _, .nil => .nil
  | _, _, .cons h1 h2 => .cons (dv_mono' e h1) (dvAll_mono' e h2)
theorem dvKv_mono {K : PySem.W.Frag} {H H' : Hp} (e : Same H H') : ∀ {vs : List (Key × V)} {ds : List (PyData × PyData)}, DvKv K H vs ds → DvKv K H' vs ds
  | _, _, .nil => .nil
  | _, _, .cons h1 h2 => .cons (dv_mono' e h1) (dvKv_mono e h2)
end
theorem dv_mono {K : PySem.W.Frag} {H H' : Hp} (e : Same H H') (d : PyData) (v : V) (h : Dv K H v d) : Dv K H' v d := dv_mono' e h
theorem dvAll_mono {K : PySem.W.Frag} {H H' : Hp} (e : Same H H') (ds : List PyData) (vs : List V) (h : DvAll K H vs ds) : DvAll K H' vs ds := dvAll_mono' e h
theorem DvAll.len {K : PySem.W.Frag} {H : Hp} : ∀ {vs : List V} {ds : List PyData}, DvAll K H vs ds → vs.length = ds.length
  | _, _, .nil => rfl
  | _, _, .cons _ h => by
    have := DvAll.len h
    simp [this]
theorem DvAll.set {K : PySem.W.Frag} {H : Hp} {v : V} {d : PyData} (q : Dv K H v d) : ∀ {vs : List V} {ds : List PyData} (i : Nat), DvAll K H vs ds → DvAll K H (vs.set i v) (ds.set i d)
  | _, _, _, .nil => .nil
  | _, _, 0, .cons _ h2 => .cons q h2
  | _, _, i + 1, .cons h1 h2 => .cons h1 (DvAll.set q i h2)
theorem DvAll.take {K : PySem.W.Frag} {H : Hp} : ∀ {vs : List V} {ds : List PyData} (n : Nat), DvAll K H vs ds → DvAll K H (vs.take n) (ds.take n)
  | _, _, 0, _ => .nil
  | _, _, _ + 1, .nil => .nil
  | _, _, n + 1, .cons h1 h2 => .cons h1 (DvAll.take n h2)
theorem DvAll.drop {K : PySem.W.Frag} {H : Hp} : ∀ {vs : List V} {ds : List PyData} (n : Nat), DvAll K H vs ds → DvAll K H (vs.drop n) (ds.drop n)
  | _, _, 0, h => h
  | _, _, _ + 1, .nil => .nil
  | _, _, n + 1, .cons h1 h2 => DvAll.drop n h2
structure Kn where
  k : Hp
  P : Nat → Option Addr
instance : CoeFun Kn (fun _ => Addr → Option HO) := ⟨Kn.k⟩
instance : Coe Kn Hp := ⟨Kn.k⟩
def Kn.upd (Hk : Kn) (p : Addr) (o : HO) : Kn := ⟨L2.upd Hk.k p o, Hk.P⟩
structure KSame (a b : Kn) : Prop where
  s : Same a.k b.k
  p : ∀ n x, a.P n = some x → b.P n = some x
theorem KSame.refl (a : Kn) : KSame a a := ⟨Same.refl _, fun _ _ h => h⟩
theorem KSame.trans {a b c : Kn} (h : KSame a b) (g : KSame b c) : KSame a c := ⟨h.s.trans g.s, fun n x q => g.p n x (h.p n x q)⟩
theorem KSame.seq {a b : Kn} (h : KSame a b) {K : PySem.W.Frag} {l : Addr} {xs : List V} (q : SqL K a l xs) : SqL K b l xs := h.s.seq q
theorem KSame.free {a b : Kn} (h : KSame a b) {p : Addr} (q : b p = none) : a p = none := h.s.free q
instance {a b : Kn} : Coe (KSame a b) (Same a.k b.k) := ⟨KSame.s⟩
inductive PV where
  | dat (d : PyData)
  | ref (n : Nat)
  | tup (ps : List PV)
inductive MC where
  | lst (ps : List PV)
  | dct (es : List (PyData × PV))
  | ins (C : Str) (fs : List (Str × PV))
  /-- known as it stands -/
  | kn (c : MC)
  /-- a dict that is known, and locked -/
  | lk (es : List (PyData × PyData))
  /-- the table of code objects of the module's def x -/
  | tab (x : Str)
def MC.live : MC → Prop
  | .kn _ => False
  | .lk _ => False
  | _ => True
def TupZ (Hk : Hp) (a : Addr) (vs : List V) : Prop := ∃ o : Obj, Hk a = some (.frz o (.tup vs)) ∧ o.cls = .type "tuple" ∧ o.dict = none
theorem TupZ.sq {K : PySem.W.Frag} {Hk : Hp} {a : Addr} {vs : List V} (h : TupZ Hk a vs) : SqT K Hk a vs := .inl (.inr ⟨h.choose, h.choose_spec.1⟩)
theorem TupZ.mono {Hk Hk' : Hp} {a : Addr} {vs : List V} (e : Same Hk Hk') (h : TupZ Hk a vs) : TupZ Hk' a vs := let ⟨o, h1, h2⟩ := h; ⟨o, e _ _ h1, h2⟩
mutual
inductive PvOk (K : PySem.W.Frag) (Hk : Kn) : V → PV → Prop
  | dat {v : V} {d : PyData} : Dv K Hk v d → PvOk K Hk v (.dat d)
  | ref {a : Addr} {n : Nat} : Hk.P n = some a → PvOk K Hk (.ref a) (.ref n)
  | tup {a : Addr} {vs : List V} {ps : List PV} : TupZ Hk.k a vs → PvAll K Hk vs ps → PvOk K Hk (.ref a) (.tup ps)
inductive PvAll (K : PySem.W.Frag) (Hk : Kn) : List V → List PV → Prop
  | nil : PvAll K Hk [] []
  | cons {v : V} {vs : List V} {p : PV} {ps : List PV} : PvOk K Hk v p → PvAll K Hk vs ps → PvAll K Hk (v :: vs) (p :: ps)
end
mutual
theorem PvOk.mono {K : PySem.W.Frag} {Hk Hk' : Kn} (e : KSame Hk Hk') : ∀ {v : V} {p : PV}, PvOk K Hk v p → PvOk K Hk' v p
  | _, _, .dat h => .dat (dv_mono e.s _ _ h)
  | _, _, .ref h => .ref (e.p _ _ h)
  | _, _, .tup h q => .tup (h.mono e.s) (PvAll.mono e q)
theorem PvAll.mono {K : PySem.W.Frag} {Hk Hk' : Kn} (e : KSame Hk Hk') : ∀ {vs : List V} {ps : List PV}, PvAll K Hk vs ps → PvAll K Hk' vs ps
  | _, _, .nil => .nil
  | _, _, .cons h1 h2 => .cons (h1.mono e) (PvAll.mono e h2)
end
inductive PvKv (K : PySem.W.Frag) (Hk : Kn) : List (Key × V) → List (PyData × PV) → Prop
  | nil : PvKv K Hk [] []
  | cons {k : Key} {v : V} {kvs : List (Key × V)} {p : PV} {es : List (PyData × PV)} : PvOk K Hk v p → PvKv K Hk kvs es → PvKv K Hk ((k, v) :: kvs) ((keyD k, p) :: es)
inductive PvFs (K : PySem.W.Frag) (Hk : Kn) : List (Str × V) → List (Str × PV) → Prop
  | nil : PvFs K Hk [] []
  | cons {k : Str} {v : V} {kvs : List (Str × V)} {p : PV} {es : List (Str × PV)} : PvOk K Hk v p → PvFs K Hk kvs es → PvFs K Hk ((k, v) :: kvs) ((k, p) :: es)
theorem PvKv.mono {K : PySem.W.Frag} {Hk Hk' : Kn} (e : KSame Hk Hk') : ∀ {vs : List (Key × V)} {ps : List (PyData × PV)}, PvKv K Hk vs ps → PvKv K Hk' vs ps
  | _, _, .nil => .nil
  | _, _, .cons h1 h2 => .cons (h1.mono e) (PvKv.mono e h2)
theorem PvFs.mono {K : PySem.W.Frag} {Hk Hk' : Kn} (e : KSame Hk Hk') : ∀ {vs : List (Str × V)} {ps : List (Str × PV)}, PvFs K Hk vs ps → PvFs K Hk' vs ps
  | _, _, .nil => .nil
  | _, _, .cons h1 h2 => .cons (h1.mono e) (PvFs.mono e h2)
def TabAt (K : PySem.W.Frag) (x : Str) (a : Addr) : Prop := ∃ (oc : Value) (od : Option Addr) (fd : FuncData) (osl : Array (Option Value)) (c : Addr) (ec : Value) (ed : Option Addr) (vs : Array Value) (esl : Array (Option Value)),
  K.lookup (He.ga K x) = some ⟨oc, od, .func fd, osl⟩ ∧ fd.code = .ref c ∧ K.lookup c = some ⟨ec, ed, .fields vs, esl⟩ ∧ vs[11]? = some (.ref a)
def lamQ (x : Str) : Str := (x ++ (".<locals>." : Str)) ++ ("<lambda>" : Str)
def CellM (K : PySem.W.Frag) (Hk : Kn) (H : Hp) (a : Addr) : MC → Prop
  | .lst ps => ∃ vs, H a = some (.lst vs) ∧ PvAll K Hk vs ps
  | .dct es => ∃ kvs, H a = some (.dK kvs) ∧ PvKv K Hk kvs es
  | .ins C fs => ∃ dx vs, H a = some (.ins (He.ga K C) dx vs) ∧ H dx = some (.own a) ∧ PvFs K Hk vs fs
  | .kn c => CellM K Hk Hk.k a c
  | .lk es => ∃ od kvs, Hk a = some (.frz od (.dK kvs)) ∧ DvKv K Hk kvs es
  | .tab x => TabAt K x a ∧ ∃ ps : Array Value, H a = some (.tbl ps) ∧ TriplesOk ps.toList ∧ ∀ (pos : Pos) (cv : Value), codeAmong pos ps.toList = some cv → ∃ c, cv = .ref c ∧ Hk.k c = some (LamX.CodeO c (lamQ x))
theorem CellM.mono {K : PySem.W.Frag} {Hk Hk' : Kn} {H H' : Hp} {a : Addr} {c : MC} (h : CellM K Hk H a c) (e : KSame Hk Hk') (k : ∀ o, H a = some o → H' a = some o) (kd : ∀ dx, H dx = some (.own a) → H' dx = some (.own a)) : CellM K Hk' H' a c := by
  cases c with
  | lst ps =>
    obtain ⟨vs, h1, h2⟩ := h
    exact ⟨vs, k _ h1, h2.mono e⟩
  | dct es =>
    obtain ⟨vs, h1, h2⟩ := h
    exact ⟨vs, k _ h1, h2.mono e⟩
  | ins C fs =>
    obtain ⟨dx, vs, h1, h2, h3⟩ := h
    exact ⟨dx, vs, k _ h1, kd _ h2, h3.mono e⟩
  | kn c => exact CellM.mono (c := c) h e (fun o q => e.s _ _ q) fun dx q => e.s _ _ q
  | lk es =>
    obtain ⟨od, kvs, h1, h2⟩ := h
    exact ⟨od, kvs, e.s _ _ h1, dvKv_mono e.s h2⟩
  | tab x =>
    obtain ⟨h0, ps, h1, h2, h3⟩ := h
    refine ⟨h0, ps, k _ h1, h2, fun pos cv q => ?_⟩
    obtain ⟨c, e1, e2⟩ := h3 pos cv q
    exact ⟨c, e1, e.s _ _ e2⟩
theorem CellM.there {K : PySem.W.Frag} {Hk : Kn} {H : Hp} {a : Addr} {c : MC} (h : CellM K Hk H a c) (l : c.live) : ∃ o, H a = some o ∧ ∀ x, o ≠ .own x := by
  cases c with
  | lst ps =>
    obtain ⟨vs, h1, h2⟩ := h
    exact ⟨_, h1, fun x z => by cases z⟩
  | dct es =>
    obtain ⟨vs, h1, h2⟩ := h
    exact ⟨_, h1, fun x z => by cases z⟩
  | ins C fs =>
    obtain ⟨dx, vs, h1, h2, h3⟩ := h
    exact ⟨_, h1, fun x z => by cases z⟩
  | kn c => cases l
  | lk es => cases l
  | tab x =>
    obtain ⟨_, ps, h1, _⟩ := h
    exact ⟨_, h1, fun x z => by cases z⟩
inductive Cell where
  | lst (ds : List PyData)
  | dct (es : List (PyData × PyData))
def Cell.dat : Cell → PyData
  | .lst ds => .list ds
  | .dct es => .dict es
inductive Slot where
  | no
  | val (d : PyData)
  | own (c : Cell)
  | io (k : Nat) (c : Cell)
  | scr (ns : List Int)
  | pin (k : Nat)
  /-- a value that may hold places of the store -/
  | pv (p : PV)
  /-- the store: the last slot of a frame that has one -/
  | sto (M : List MC)
abbrev Sl := List Slot
inductive Res where
  | dat (d : PyData)
  | new (c : Cell)
  | slt (i : Nat)
  | pv (p : PV)
def Slot.mut : Slot → Prop
  | .own _ => True
  | .io _ _ => True
  | _ => False
def CellAt (K : PySem.W.Frag) (Hk H : Hp) (a : Addr) : Cell → Prop
  | .lst ds => ∃ vs, H a = some (.lst vs) ∧ DvAll K Hk vs ds
  | .dct es => ∃ kvs, H a = some (.dK kvs) ∧ DvKv K Hk kvs es
theorem CellAt.obj {K : PySem.W.Frag} {Hk H : Hp} {a : Addr} {c : Cell} (h : CellAt K Hk H a c) : ∃ o, H a = some o ∧ ∀ Hk' : Hp, Same Hk Hk' → Hk' a = some o → Dv K Hk' (.ref a) c.dat := by
  cases c with
  | lst ds =>
    obtain ⟨vs, h1, h2⟩ := h
    exact ⟨_, h1, fun Hk' e q => .lst q (dvAll_mono e _ _ h2)⟩
  | dct es =>
    obtain ⟨vs, h1, h2⟩ := h
    exact ⟨_, h1, fun Hk' e q => .dct (.inl q) (dvKv_mono e h2)⟩
theorem CellAt.mono {K : PySem.W.Frag} {Hk Hk' H H' : Hp} {a : Addr} {c : Cell} (h : CellAt K Hk H a c) (e : Same Hk Hk') (k : ∀ o, H a = some o → H' a = some o) : CellAt K Hk' H' a c := by
  cases c with
  | lst ds =>
    obtain ⟨vs, h1, h2⟩ := h
    exact ⟨vs, k _ h1, dvAll_mono e _ _ h2⟩
  | dct es =>
    obtain ⟨vs, h1, h2⟩ := h
    exact ⟨vs, k _ h1, dvKv_mono e h2⟩
theorem CellAt.there {K : PySem.W.Frag} {Hk H : Hp} {a : Addr} {c : Cell} (h : CellAt K Hk H a c) : ∃ o, H a = some o := by
  cases c with
  | lst ds =>
    obtain ⟨vs, h1, h2⟩ := h
    exact ⟨_, h1⟩
  | dct es =>
    obtain ⟨vs, h1, h2⟩ := h
    exact ⟨_, h1⟩

structure Fb where
  K0 : Kn
  H0 : Hp
  A : Nat → Option Addr
  P : Nat → Option Addr
  /-- the store's cells that stood at the beginning -/
  S : Addr → Prop := fun _ => False
def Fb.io (B : Fb) (a : Addr) : Prop := (∃ k, B.A k = some a) ∨ B.S a
def SlotOk (K : PySem.W.Frag) (B : Fb) (Hk : Kn) (H : Hp) (s : Slot) (o : Option V) : Prop := match s with
  | .no => True
  | .val d => ∃ v, o = some v ∧ Dv K Hk v d
  | .own c => ∃ a, o = some (.ref a) ∧ Hk a = none ∧ B.H0 a = none ∧ CellAt K Hk H a c
  | .io k c => ∃ a, o = some (.ref a) ∧ Hk a = none ∧ B.A k = some a ∧ CellAt K Hk H a c
  | .scr ns => ∃ a, o = some (.ref a) ∧ SqL K Hk a (ns.map V.int)
  | .pin k => ∃ a, o = some (.ref a) ∧ B.P k = some a
  | .pv p => ∃ v, o = some v ∧ PvOk K Hk v p
  | .sto _ => True
structure StoOk (K : PySem.W.Frag) (B : Fb) (Hk : Kn) (H : Hp) (M : List MC) : Prop where
  cel : ∀ (n : Nat) c, M[n]? = some c → ∃ a, Hk.P n = some a ∧ CellM K Hk H a c ∧ (c.live → Hk a = none)
  inj : ∀ (n m : Nat) a, Hk.P n = some a → Hk.P m = some a → n = m
  top : ∀ (n : Nat), M.length ≤ n → Hk.P n = none
def HasSto (env : Sl) (M : List MC) : Prop := env[env.length - 1]? = some (.sto M)
structure Rel (K : PySem.W.Frag) (B : Fb) (env : Sl) (σ : St) (Hk : Kn) (H : Hp) : Prop where
  ex : Same Hk H
  kn : KSame B.K0 Hk
  fr : ∀ a, Hk a ≠ none → B.K0 a = none → B.H0 a = none
  kp : ∀ a o, B.H0 a = some o → ¬ B.io a → H a = some o
  oin : ∀ a, B.io a → H a ≠ none ∧ Hk a = none
  o0 : ∀ a, B.io a → B.H0 a ≠ none
  len : env.length = σ.length
  slot : ∀ (i : Nat) s, env[i]? = some s → ∃ o, σ[i]? = some o ∧ SlotOk K B Hk H s o
  sep : ∀ (i j : Nat) s t a, env[i]? = some s → env[j]? = some t → s.mut → t.mut → σ[i]? = some (some (V.ref a)) → σ[j]? = some (some (V.ref a)) → i = j
  sok : ∀ M, HasSto env M → StoOk K B Hk H M
  pin : ∀ (n : Nat) a, Hk.P n = some a → H a ≠ none ∧ (Hk a = none → B.H0 a = none ∨ B.io a)
  psep : ∀ (i : Nat) s a (n : Nat), env[i]? = some s → s.mut → σ[i]? = some (some (V.ref a)) → Hk.P n ≠ some a
def ResOk (K : PySem.W.Frag) (B : Fb) (env : Sl) (σ : St) (Hk : Kn) (H : Hp) (r : Res) (v : V) : Prop := match r with
  | .dat d => Dv K Hk v d
  | .new c => ∃ a, v = .ref a ∧ Hk a = none ∧ B.H0 a = none ∧ CellAt K Hk H a c ∧ (∀ (n : Nat), Hk.P n ≠ some a) ∧ ∀ (j : Nat) s, env[j]? = some s → s.mut → σ[j]? ≠ some (some (V.ref a))
  | .slt i => σ[i]? = some (some v)
  | .pv p => PvOk K Hk v p

section
variable {K : PySem.W.Frag} {B : Fb} {env : Sl} {σ : St} {Hk Hk' : Kn} {H H' : Hp}
theorem ne_none {H : Hp} {a : Addr} {o : HO} (h : H a = some o) : H a ≠ none := by rw [h]; exact fun z => nomatch z
theorem CellM.known {K : PySem.W.Frag} {Hk : Kn} : ∀ {c : MC} {H : Hp} {a : Addr}, CellM K Hk H a c → ¬ c.live → Hk a ≠ none
  | .lst _, _, _, _, n => absurd trivial n
  | .dct _, _, _, _, n => absurd trivial n
  | .ins _ _, _, _, _, n => absurd trivial n
  | .tab _, _, _, _, n => absurd trivial n
  | .lk _, _, _, ⟨_, _, h, _⟩, _ => ne_none h
  | .kn (.lst _), _, _, ⟨_, h, _⟩, _ => ne_none h
  | .kn (.dct _), _, _, ⟨_, h, _⟩, _ => ne_none h
  | .kn (.ins _ _), _, _, ⟨_, _, h, _⟩, _ => ne_none h
  | .kn (.lk _), _, _, ⟨_, _, h, _⟩, _ => ne_none h
  | .kn (.tab _), _, _, ⟨_, _, h, _⟩, _ => ne_none h
  | .kn (.kn c), _, a, h, _ => CellM.known (c := .kn c) (H := Hk.k) (a := a) h fun z => z
theorem StoOk.mono {M : List MC} (S : StoOk K B Hk H M) (e : Same Hk Hk') (hP : Hk'.P = Hk.P) (u : ∀ n a, Hk.P n = some a → Hk a = none → Hk' a = none) (k : ∀ a o, (∃ n, Hk.P n = some a) → H a = some o → H' a = some o) (kd : ∀ dx a, H dx = some (.own a) → H' dx = some (.own a)) : StoOk K B Hk' H' M where
  cel := fun n c h => by
    obtain ⟨a, h1, h2, h3⟩ := S.cel n c h
    refine ⟨a, by rw [hP]; exact h1, h2.mono ⟨e, fun n x q => by rw [hP]; exact q⟩ (fun o => k a o ⟨n, h1⟩) (fun dx => kd dx a), fun l => u n a h1 (h3 l)⟩
  inj := fun n m a h1 h2 => S.inj n m a (by rw [← hP]; exact h1) (by rw [← hP]; exact h2)
  top := fun n h => by rw [hP]; exact S.top n h
theorem hasSto_set {i : Nat} {s : Slot} {M : List MC} (h : HasSto (env.set i s) M) (hs : ∀ M, s ≠ .sto M) : HasSto env M := by
  unfold HasSto at *
  rw [List.length_set] at h
  by_cases e : i = env.length - 1
  · subst e
    by_cases hl : env.length - 1 < env.length
    · rw [List.getElem?_set_self hl] at h
      exact absurd (Option.some.inj h) (hs M)
    · rw [List.getElem?_eq_none (by rw [List.length_set]; omega)] at h
      cases h
  · rw [List.getElem?_set_ne e] at h
    exact h
theorem Rel.grow (R : Rel K B env σ Hk H) (e : Same Hk Hk') (e' : Same Hk' H') (s : Same H H') (f : ∀ a, Hk' a ≠ none → Hk a = none → H a = none) (hP : Hk'.P = Hk.P := by rfl) : Rel K B env σ Hk' H' where
  ex := e'
  kn := R.kn.trans ⟨e, fun n x q => by rw [hP]; exact q⟩
  fr := fun a h1 h2 => by
    by_cases q : Hk a = none
    · have hn := f a h1 q
      cases hb : B.H0 a with
      | none => rfl
      | some o =>
        by_cases ho : B.io a
        · exact absurd hn (R.oin a ho).1
        · rw [R.kp a o hb ho] at hn
          cases hn
    · exact R.fr a q h2
  kp := fun a o h1 h2 => s a o (R.kp a o h1 h2)
  oin := fun a h => by
    obtain ⟨h1, h2⟩ := R.oin a h
    obtain ⟨o, ho⟩ := Option.ne_none_iff_exists'.mp h1
    refine ⟨ne_none (s a o ho), ?_⟩
    cases q : Hk' a with
    | none => rfl
    | some u => exact absurd (f a (ne_none q) h2) h1
  o0 := R.o0
  len := R.len
  slot := fun i t h => by
    obtain ⟨o, h1, h2⟩ := R.slot i t h
    refine ⟨o, h1, ?_⟩
    have fresh : ∀ a c, Hk a = none → CellAt K Hk H a c → Hk' a = none := fun a c z w => by
      obtain ⟨u, hu⟩ := w.there
      cases q : Hk' a with
      | none => rfl
      | some x => exact absurd (f a (ne_none q) z) (ne_none hu)
    cases t with
    | no => trivial
    | sto M => trivial
    | val d =>
      obtain ⟨v, e1, q⟩ := h2
      exact ⟨v, e1, dv_mono e d v q⟩
    | scr ns =>
      obtain ⟨a, e1, q⟩ := h2
      exact ⟨a, e1, e.seq q⟩
    | pin a => exact h2
    | pv p =>
      obtain ⟨v, e1, q⟩ := h2
      exact ⟨v, e1, q.mono ⟨e, fun n x q => by rw [hP]; exact q⟩⟩
    | own c =>
      obtain ⟨a, e1, q1, q2, q3⟩ := h2
      exact ⟨a, e1, fresh a c q1 q3, q2, q3.mono e fun o => s a o⟩
    | io k c =>
      obtain ⟨a, e1, q1, q2, q3⟩ := h2
      exact ⟨a, e1, fresh a c q1 q3, q2, q3.mono e fun o => s a o⟩
  sep := R.sep
  sok := fun M h => (R.sok M h).mono e hP (fun n a h1 h2 => by
    cases q : Hk' a with
    | none => rfl
    | some x => exact absurd (f a (ne_none q) h2) (R.pin n a h1).1) (fun a o _ => s a o) fun dx a => s dx _
  pin := fun n a h => by
    obtain ⟨h1, h2⟩ := R.pin n a (by rw [← hP]; exact h)
    obtain ⟨o, ho⟩ := Option.ne_none_iff_exists'.mp h1
    exact ⟨ne_none (s a o ho), fun z => h2 (e.free z)⟩
  psep := fun i t a n h1 h2 h3 => by rw [hP]; exact R.psep i t a n h1 h2 h3
theorem Rel.fresh0 (R : Rel K B env σ Hk H) {p : Addr} (h : H p = none) : B.H0 p = none := by
  cases hb : B.H0 p with
  | none => rfl
  | some o =>
    by_cases ho : B.io p
    · exact absurd h (R.oin p ho).1
    · rw [R.kp p o hb ho] at h
      cases h
theorem same_upd {H : Hp} {p : Addr} {o : HO} (h : H p = none) : Same H (upd H p o) := fun b x e => by
  rw [upd_ne (ne_of_none e h)]
  exact e
theorem ksame_upd {Hk : Kn} {p : Addr} {o : HO} (h : Hk p = none) : KSame Hk (Hk.upd p o) := ⟨same_upd h, fun _ _ q => q⟩
theorem Rel.kfree (R : Rel K B env σ Hk H) {p : Addr} (h : H p = none) : Hk p = none := R.ex.free h
theorem Rel.pfree (R : Rel K B env σ Hk H) {p : Addr} (h : H p = none) (n : Nat) : Hk.P n ≠ some p := fun e => (R.pin n p e).1 h
theorem Rel.laid (R : Rel K B env σ Hk H) {p : Addr} {o : HO} (h : H p = none) : Rel K B env σ Hk (upd H p o) :=
  R.grow (Same.refl _) (R.ex.trans (same_upd h)) (same_upd h) fun a h1 h2 => absurd h2 h1
theorem upd_known {H : Hp} {p a : Addr} {o : HO} (h : upd H p o a ≠ none) (h2 : H a = none) : a = p := by
  by_cases e : a = p
  · exact e
  · rw [upd_ne e] at h
    exact absurd h2 h
theorem Rel.laidK (R : Rel K B env σ Hk H) {p : Addr} {o : HO} (h : H p = none) : Rel K B env σ (Hk.upd p o) (upd H p o) :=
  R.grow (Hk' := Hk.upd p o) (same_upd (R.kfree h)) (fun b x e => by
    have e : upd Hk.k p o b = some x := e
    by_cases hb : b = p
    · subst hb
      rw [upd_same] at e ⊢
      exact e
    · rw [upd_ne hb] at e ⊢
      exact R.ex _ _ e) (same_upd h) fun a h1 h2 => by
    rw [upd_known (H := Hk.k) h1 h2]
    exact h
theorem Rel.mutNe (R : Rel K B env σ Hk H) {p : Addr} (h : H p = none) {j : Nat} {s : Slot} (hs : env[j]? = some s) (hm : s.mut) : σ[j]? ≠ some (some (V.ref p)) := fun e => by
  obtain ⟨o, h1, h2⟩ := R.slot j s hs
  rw [e] at h1
  cases h1
  cases s with
  | own c =>
    obtain ⟨a, e1, q1, q2, q3⟩ := h2
    obtain ⟨u, hu⟩ := q3.there
    cases e1
    rw [h] at hu
    cases hu
  | io k c =>
    obtain ⟨a, e1, q1, q2, q3⟩ := h2
    obtain ⟨u, hu⟩ := q3.there
    cases e1
    rw [h] at hu
    cases hu
  | _ => cases hm

def Out (K : PySem.W.Frag) (Hk H : Hp) (r : Res) (v : V) (H' : Hp) : Prop := match r with
  | .dat d => (H' = H ∧ Dv K Hk v d) ∨ ∃ p vs ds, d = .tuple ds ∧ v = .ref p ∧ H p = none ∧ H' = upd H p (.tup vs) ∧ DvAll K Hk vs ds
  | .new (.lst ds) => ∃ p vs, v = .ref p ∧ H p = none ∧ H' = upd H p (.lst vs) ∧ DvAll K Hk vs ds
  | .new (.dct es) => ∃ p kvs, v = .ref p ∧ H p = none ∧ H' = upd H p (.dK kvs) ∧ DvKv K Hk kvs es
  | _ => False
theorem Rel.out (R : Rel K B env σ Hk H) {r : Res} {v : V} (o : Out K Hk H r v H') : ∃ Hk' : Kn, Rel K B env σ Hk' H' ∧ KSame Hk Hk' ∧ ResOk K B env σ Hk' H' r v := by
  cases r with
  | dat d =>
    rcases o with ⟨rfl, q⟩ | ⟨p, vs, ds, rfl, rfl, hp, rfl, q⟩
    · exact ⟨Hk, R, KSame.refl _, q⟩
    · refine ⟨Hk.upd p (.tup vs), R.laidK hp, ksame_upd (R.kfree hp), ?_⟩
      exact .tup (SqT.of (show upd Hk.k p _ p = _ from upd_same)) (dvAll_mono (same_upd (R.kfree hp)) _ _ q)
  | new c =>
    cases c with
    | lst ds =>
      obtain ⟨p, vs, rfl, hp, rfl, q⟩ := o
      exact ⟨Hk, R.laid hp, KSame.refl _, p, rfl, R.kfree hp, R.fresh0 hp, ⟨vs, upd_same, q⟩, R.pfree hp, fun j s h1 h2 => R.mutNe hp h1 h2⟩
    | dct es =>
      obtain ⟨p, vs, rfl, hp, rfl, q⟩ := o
      exact ⟨Hk, R.laid hp, KSame.refl _, p, rfl, R.kfree hp, R.fresh0 hp, ⟨vs, upd_same, q⟩, R.pfree hp, fun j s h1 h2 => R.mutNe hp h1 h2⟩
  | slt i => exact False.elim o
  | pv p => exact False.elim o
theorem Rel.know (R : Rel K B env σ Hk H) {p : Addr} {ob : HO} (h : H p = some ob) (hk : Hk p = none) (h0 : B.H0 p = none) (hP : ∀ (n : Nat), Hk.P n ≠ some p)
    (hn : ∀ (j : Nat) s, env[j]? = some s → s.mut → σ[j]? ≠ some (some (V.ref p))) : Rel K B env σ (Hk.upd p ob) H where
  ex := fun b x e => by
    have e : upd Hk.k p ob b = some x := e
    by_cases hb : b = p
    · subst hb
      rw [upd_same] at e
      cases e
      exact h
    · rw [upd_ne hb] at e
      exact R.ex _ _ e
  kn := R.kn.trans (ksame_upd hk)
  fr := fun a h1 h2 => by
    by_cases hb : a = p
    · rw [hb]
      exact h0
    · have h1 : upd Hk.k p ob a ≠ none := h1
      rw [upd_ne hb] at h1
      exact R.fr a h1 h2
  kp := R.kp
  oin := fun a ha => by
    refine ⟨(R.oin a ha).1, ?_⟩
    have ne : a ≠ p := fun e => R.o0 a ha (by rw [e]; exact h0)
    show upd Hk.k p ob a = none
    rw [upd_ne ne]
    exact (R.oin a ha).2
  o0 := R.o0
  len := R.len
  slot := fun i t hi => by
    obtain ⟨o, h1, h2⟩ := R.slot i t hi
    refine ⟨o, h1, ?_⟩
    have sm : Same Hk.k (upd Hk.k p ob) := same_upd hk
    cases t with
    | no => trivial
    | sto M => trivial
    | val d =>
      obtain ⟨v, e1, q⟩ := h2
      exact ⟨v, e1, dv_mono sm d v q⟩
    | scr ns =>
      obtain ⟨a, e1, q⟩ := h2
      exact ⟨a, e1, sm.seq q⟩
    | pin a => exact h2
    | pv p =>
      obtain ⟨v, e1, q⟩ := h2
      exact ⟨v, e1, q.mono (ksame_upd hk)⟩
    | own c =>
      obtain ⟨a, e1, q1, q2, q3⟩ := h2
      have ne : a ≠ p := fun z => by
        subst e1 z
        exact hn i _ hi trivial h1
      exact ⟨a, e1, by show upd Hk.k p ob a = none; rw [upd_ne ne]; exact q1, q2, q3.mono sm fun o z => z⟩
    | io k c =>
      obtain ⟨a, e1, q1, q2, q3⟩ := h2
      have ne : a ≠ p := fun z => by
        subst e1 z
        exact hn i _ hi trivial h1
      exact ⟨a, e1, by show upd Hk.k p ob a = none; rw [upd_ne ne]; exact q1, q2, q3.mono sm fun o z => z⟩
  sep := R.sep
  sok := fun M h => (R.sok M h).mono (same_upd hk) rfl (fun n a h1 h2 => by
    have ne : a ≠ p := fun z => hP n (z ▸ h1)
    show upd Hk.k p ob a = none
    rw [upd_ne ne]
    exact h2) (fun _ _ _ z => z) fun _ _ z => z
  pin := fun n a h => by
    refine ⟨(R.pin n a h).1, fun z => (R.pin n a h).2 ?_⟩
    have z : upd Hk.k p ob a = none := z
    have ne : a ≠ p := fun e => by rw [e, upd_same] at z; cases z
    rw [upd_ne ne] at z
    exact z
  psep := R.psep
theorem set_get {α : Type} {l : List α} {i j : Nat} {x y : α} (h : (l.set i x)[j]? = some y) : (j = i ∧ y = x) ∨ (j ≠ i ∧ l[j]? = some y) := by
  by_cases e : i = j
  · subst e
    by_cases hl : i < l.length
    · rw [List.getElem?_set_self hl] at h
      exact .inl ⟨rfl, (Option.some.inj h).symm⟩
    · rw [List.getElem?_eq_none (by rw [List.length_set]; omega)] at h
      cases h
  · rw [List.getElem?_set_ne e] at h
    exact .inr ⟨fun z => e z.symm, h⟩
theorem Rel.less (R : Rel K B env σ Hk H) {i : Nat} {s : Slot} (ns : ¬ s.mut) (hs : ∀ M, s ≠ .sto M) (h : ∀ o, σ[i]? = some o → SlotOk K B Hk H s o) : Rel K B (env.set i s) σ Hk H where
  ex := R.ex
  kn := R.kn
  fr := R.fr
  kp := R.kp
  oin := R.oin
  o0 := R.o0
  len := by rw [List.length_set]; exact R.len
  slot := fun j t hj => by
    rcases set_get hj with ⟨rfl, rfl⟩ | ⟨hne, hj'⟩
    · have hl : j < σ.length := by
        have := (List.getElem?_eq_some_iff.mp hj).1
        rw [List.length_set] at this
        rw [← R.len]
        exact this
      exact ⟨_, List.getElem?_eq_getElem hl, h _ (List.getElem?_eq_getElem hl)⟩
    · exact R.slot j t hj'
  sep := fun j k s t b hj hk ms mt g1 g2 => by
    rcases set_get hj with ⟨rfl, rfl⟩ | ⟨_, hj⟩
    · exact absurd ms ns
    · rcases set_get hk with ⟨rfl, rfl⟩ | ⟨_, hk⟩
      · exact absurd mt ns
      · exact R.sep j k s t b hj hk ms mt g1 g2
  sok := fun M h => R.sok M (hasSto_set h hs)
  pin := R.pin
  psep := fun j s a n hj ms g => by
    rcases set_get hj with ⟨rfl, rfl⟩ | ⟨_, hj⟩
    · exact absurd ms ns
    · exact R.psep j s a n hj ms g
theorem Rel.freezeC (R : Rel K B env σ Hk H) {i : Nat} {c : Cell} (h : env[i]? = some (.own c)) :
    ∃ a, ∃ Hk' : Kn, σ[i]? = some (some (V.ref a)) ∧ Rel K B (env.set i (.val c.dat)) σ Hk' H ∧ KSame Hk Hk' ∧ Dv K Hk' (.ref a) c.dat := by
  obtain ⟨o, h1, a, rfl, q1, q2, qc⟩ := R.slot i _ h
  obtain ⟨ob, q3, q4⟩ := qc.obj
  have sm : KSame Hk (Hk.upd a ob) := ksame_upd q1
  have dp : Dv K (Hk.upd a ob) (.ref a) c.dat := q4 _ sm.s upd_same
  have R1 : Rel K B (env.set i .no) σ Hk H := R.less (fun z => z) (fun M z => by cases z) fun o _ => trivial
  have R2 := R1.know q3 q1 q2 (fun n => R.psep i _ a n h trivial h1) fun j s hj hm e => by
    rcases set_get hj with ⟨rfl, rfl⟩ | ⟨ne, hj⟩
    · cases hm
    · exact ne (R.sep j i s _ a hj h hm trivial e h1)
  have R3 := R2.less (i := i) (s := .val c.dat) (fun z => z) (fun M z => by cases z) fun o ho => by
    rw [h1] at ho
    cases ho
    exact ⟨_, rfl, dp⟩
  rw [List.set_set] at R3
  exact ⟨a, _, h1, R3, sm, dp⟩
theorem Rel.setW (R : Rel K B env σ Hk H) {i : Nat} {s : Slot} {o : Option V} (ns : ¬ s.mut) (hs : ∀ M, s ≠ .sto M) (h : SlotOk K B Hk H s o) : Rel K B (env.set i s) (σ.set i o) Hk H where
  ex := R.ex
  kn := R.kn
  fr := R.fr
  kp := R.kp
  oin := R.oin
  o0 := R.o0
  len := by rw [List.length_set, List.length_set]; exact R.len
  slot := fun j t hj => by
    rcases set_get hj with ⟨rfl, rfl⟩ | ⟨hne, hj'⟩
    · have hl : j < σ.length := by
        have := (List.getElem?_eq_some_iff.mp hj).1
        rw [List.length_set] at this
        rw [← R.len]
        exact this
      exact ⟨o, by rw [List.getElem?_set_self hl], h⟩
    · obtain ⟨o, g1, g2⟩ := R.slot j t hj'
      exact ⟨o, by rw [List.getElem?_set_ne (fun z => hne z.symm)]; exact g1, g2⟩
  sep := fun j k s t b hj hk ms mt g1 g2 => by
    rcases set_get hj with ⟨rfl, rfl⟩ | ⟨n1, hj⟩
    · exact absurd ms ns
    · rcases set_get hk with ⟨rfl, rfl⟩ | ⟨n2, hk⟩
      · exact absurd mt ns
      · rw [List.getElem?_set_ne (fun z => n1 z.symm)] at g1
        rw [List.getElem?_set_ne (fun z => n2 z.symm)] at g2
        exact R.sep j k s t b hj hk ms mt g1 g2
  sok := fun M h => R.sok M (hasSto_set h hs)
  pin := R.pin
  psep := fun j s a n hj ms g => by
    rcases set_get hj with ⟨rfl, rfl⟩ | ⟨n1, hj⟩
    · exact absurd ms ns
    · rw [List.getElem?_set_ne (fun z => n1 z.symm)] at g
      exact R.psep j s a n hj ms g
theorem Rel.setVal (R : Rel K B env σ Hk H) {i : Nat} {v : V} {d : PyData} (h : Dv K Hk v d) : Rel K B (env.set i (.val d)) (σ.set i (some v)) Hk H := R.setW (fun z => z) (fun M z => by cases z) ⟨v, rfl, h⟩
theorem Rel.setNo (R : Rel K B env σ Hk H) {i : Nat} {o : Option V} : Rel K B (env.set i .no) (σ.set i o) Hk H := R.setW (fun z => z) (fun M z => by cases z) trivial
end
abbrev ME := Sl → Option (Res × Sl)
abbrev MT := Sl → Option (Bool × Sl)
abbrev MA := Sl → Option (List Res × Sl)
def tE (K : PySem.W.Frag) (m : ME) : TE := fun σ H Q => ∃ B env Hk r env', Rel K B env σ Hk H ∧ m env = some (r, env') ∧
  ∀ v Hk' H', Rel K B env' σ Hk' H' → KSame Hk Hk' → ResOk K B env' σ Hk' H' r v → Q v H'
def stab : Res → Res
  | .new c => .dat c.dat
  | r => r
def RsOk (K : PySem.W.Frag) (σ : St) (Hk : Kn) (r : Res) (v : V) : Prop := match r with
  | .dat d => Dv K Hk v d
  | .slt i => σ[i]? = some (some v)
  | .pv p => PvOk K Hk v p
  | .new _ => False
inductive RsAll (K : PySem.W.Frag) (σ : St) (Hk : Kn) : List Res → List V → Prop
  | nil : RsAll K σ Hk [] []
  | cons {r : Res} {v : V} {rs : List Res} {vs : List V} : RsOk K σ Hk r v → RsAll K σ Hk rs vs → RsAll K σ Hk (r :: rs) (v :: vs)
section
variable {K : PySem.W.Frag} {B : Fb} {env : Sl} {σ : St} {Hk Hk' : Kn} {H H' : Hp} {r : Res} {v : V} {d : PyData}
theorem RsOk.mono (e : KSame Hk Hk') (h : RsOk K σ Hk r v) : RsOk K σ Hk' r v := by
  cases r with
  | dat d => exact dv_mono e d v h
  | slt i => exact h
  | new c => exact h
  | pv p => exact PvOk.mono e h
theorem RsAll.mono (e : KSame Hk Hk') : ∀ {rs : List Res} {vs : List V}, RsAll K σ Hk rs vs → RsAll K σ Hk' rs vs
  | _, _, .nil => .nil
  | _, _, .cons h t => .cons (h.mono e) (RsAll.mono e t)
theorem Rel.stab (R : Rel K B env σ Hk H) (h : ResOk K B env σ Hk H r v) : ∃ Hk' : Kn, Rel K B env σ Hk' H ∧ KSame Hk Hk' ∧ RsOk K σ Hk' (stab r) v := by
  cases r with
  | dat d => exact ⟨Hk, R, .refl _, h⟩
  | slt i => exact ⟨Hk, R, .refl _, h⟩
  | pv p => exact ⟨Hk, R, .refl _, h⟩
  | new c =>
    obtain ⟨a, rfl, h1, h2, hc, hP, h5⟩ := h
    obtain ⟨ob, h3, h4⟩ := hc.obj
    exact ⟨Hk.upd a ob, R.know h3 h1 h2 hP h5, ksame_upd h1, h4 _ (same_upd h1) upd_same⟩
def sto (env : Sl) : List MC := match env[env.length - 1]? with
  | some (.sto M) => M
  | _ => []
def datsP : List PV → Option (List PyData)
  | [] => some []
  | .dat d :: ps => (datsP ps).map (d :: ·)
  | _ :: _ => none
def datsK : List (PyData × PV) → Option (List (PyData × PyData))
  | [] => some []
  | (k, .dat d) :: ps => (datsK ps).map ((k, d) :: ·)
  | _ :: _ => none
def PV.rd (M : List MC) : PV → Option PyData
  | .dat d => some d
  | .tup ps => (datsP ps).map .tuple
  | .ref n => match M[n]? with
    | some (.lst ps) => (datsP ps).map .list
    | some (.dct es) => (datsK es).map .dict
    | some (.kn (.lst ps)) => (datsP ps).map .list
    | some (.kn (.dct es)) => (datsK es).map .dict
    | some (.lk es) => some (.dict es)
    | _ => none
theorem datsP_dv {K : PySem.W.Frag} {Hk : Kn} : ∀ {ps : List PV} {vs : List V} {ds : List PyData}, PvAll K Hk vs ps → datsP ps = some ds → DvAll K Hk vs ds
  | [], _, ds, .nil, h => by
    cases h
    exact .nil
  | .dat d :: ps, _, ds, .cons h1 h2, h => by
    obtain ⟨e, h3, rfl⟩ := Option.map_eq_some_iff.mp h
    cases h1 with
    | dat q => exact .cons q (datsP_dv h2 h3)
  | .ref _ :: _, _, _, _, h => by cases h
  | .tup _ :: _, _, _, _, h => by cases h
theorem datsK_dv {K : PySem.W.Frag} {Hk : Kn} : ∀ {ps : List (PyData × PV)} {vs : List (Key × V)} {ds : List (PyData × PyData)}, PvKv K Hk vs ps → datsK ps = some ds → DvKv K Hk vs ds
  | [], _, ds, .nil, h => by
    cases h
    exact .nil
  | (_, .dat d) :: ps, _, ds, .cons h1 h2, h => by
    obtain ⟨e, h3, rfl⟩ := Option.map_eq_some_iff.mp h
    cases h1 with
    | dat q => exact .cons q (datsK_dv h2 h3)
  | (_, .ref _) :: _, _, _, .cons _ _, h => by cases h
  | (_, .tup _) :: _, _, _, .cons _ _, h => by cases h
def PV.kn (M : List MC) : PV → Option PyData
  | .dat d => some d
  | .tup ps => (datsP ps).map .tuple
  | .ref n => match M[n]? with
    | some (.kn (.lst ps)) => (datsP ps).map .list
    | some (.kn (.dct es)) => (datsK es).map .dict
    | some (.lk es) => some (.dict es)
    | _ => none
def rdAllP (f : PV → Option PyData) : List PV → Option (List PyData)
  | [] => some []
  | p :: ps => (f p).bind fun d => (rdAllP f ps).map (d :: ·)
def rdAllK (f : PV → Option PyData) : List (PyData × PV) → Option (List (PyData × PyData))
  | [] => some []
  | p :: ps => (f p.2).bind fun d => (rdAllK f ps).map ((p.1, d) :: ·)
def PV.deep (M : List MC) : Nat → PV → Option PyData
  | _, .dat d => some d
  | 0, _ => none
  | f + 1, .tup ps => (rdAllP (PV.deep M f) ps).map .tuple
  | f + 1, .ref n => match M[n]? with
    | some (.lst ps) => (rdAllP (PV.deep M f) ps).map .list
    | some (.dct es) => (rdAllK (PV.deep M f) es).map .dict
    | some (.kn (.lst ps)) => (rdAllP (PV.deep M f) ps).map .list
    | some (.kn (.dct es)) => (rdAllK (PV.deep M f) es).map .dict
    | some (.lk es) => some (.dict es)
    | _ => none
def rdv (env : Sl) : Res → Option PyData
  | .dat d => some d
  | .pv p => p.rd (sto env)
  | .new _ => none
  | .slt i => match env[i]? with
    | some (.val d) => some d
    | some (.own c) => some c.dat
    | some (.io _ c) => some c.dat
    | _ => none
def View (K : PySem.W.Frag) (Hk H : Hp) (v : V) (d : PyData) : Prop := Dv K Hk v d ∨ ∃ a c, v = .ref a ∧ d = Cell.dat c ∧ CellAt K Hk H a c
theorem Rel.stoAt (R : Rel K B env σ Hk H) {n : Nat} {c : MC} (h : (sto env)[n]? = some c) : HasSto env (sto env) ∧ ∃ a, Hk.P n = some a ∧ CellM K Hk H a c ∧ (c.live → Hk a = none) := by
  have hS : HasSto env (sto env) := by
    unfold sto HasSto at *
    split at h
    · assumption
    · simp at h
  exact ⟨hS, (R.sok _ hS).cel n c h⟩
theorem deepAll {K : PySem.W.Frag} {Hk : Kn} {Hl : Hp} {g : PV → Option PyData} (ih : ∀ {p : PV} {v : V} {d : PyData}, PvOk K Hk v p → g p = some d → Dv K Hl v d) : ∀ {ps : List PV} {vs : List V} {ds : List PyData}, PvAll K Hk vs ps → rdAllP g ps = some ds → DvAll K Hl vs ds
  | [], _, ds, .nil, h => by
    cases h
    exact .nil
  | p :: ps, _, ds, .cons w1 w2, h => by
    obtain ⟨d1, g1, h3⟩ := Option.bind_eq_some_iff.mp h
    obtain ⟨ds1, g2, rfl⟩ := Option.map_eq_some_iff.mp h3
    exact .cons (ih w1 g1) (deepAll ih w2 g2)
theorem deepKv {K : PySem.W.Frag} {Hk : Kn} {Hl : Hp} {g : PV → Option PyData} (ih : ∀ {p : PV} {v : V} {d : PyData}, PvOk K Hk v p → g p = some d → Dv K Hl v d) : ∀ {ps : List (PyData × PV)} {vs : List (Key × V)} {ds : List (PyData × PyData)}, PvKv K Hk vs ps → rdAllK g ps = some ds → DvKv K Hl vs ds
  | [], _, ds, .nil, h => by
    cases h
    exact .nil
  | (_, p) :: ps, _, ds, .cons w1 w2, h => by
    obtain ⟨d1, g1, h3⟩ := Option.bind_eq_some_iff.mp h
    obtain ⟨ds1, g2, rfl⟩ := Option.map_eq_some_iff.mp h3
    exact .cons (ih w1 g1) (deepKv ih w2 g2)
theorem Rel.viewP (R : Rel K B env σ Hk H) {p : PV} (h : PvOk K Hk v p) (e : p.rd (sto env) = some d) : View K Hk H v d := by
  cases h with
  | dat q =>
    cases e
    exact .inl q
  | tup q1 q2 =>
    obtain ⟨ds, h3, rfl⟩ := Option.map_eq_some_iff.mp e
    exact .inl (.tup q1.sq (datsP_dv q2 h3))
  | @ref a n q =>
    unfold PV.rd at e
    simp only at e
    cases hc : (sto env)[n]? with
    | none => simp only [hc] at e; cases e
    | some c =>
      obtain ⟨hS, b, g1, g2, g3⟩ := R.stoAt hc
      rw [q] at g1
      cases g1
      simp only [hc] at e
      cases c with
      | lst ps =>
        obtain ⟨ds, h3, rfl⟩ := Option.map_eq_some_iff.mp e
        obtain ⟨vs, h4, h5⟩ := g2
        exact .inr ⟨a, .lst ds, rfl, rfl, vs, h4, datsP_dv h5 h3⟩
      | dct ps =>
        obtain ⟨ds, h3, rfl⟩ := Option.map_eq_some_iff.mp e
        obtain ⟨vs, h4, h5⟩ := g2
        exact .inr ⟨a, .dct ds, rfl, rfl, vs, h4, datsK_dv h5 h3⟩
      | ins C fs => cases e
      | tab x => cases e
      | lk es =>
        cases e
        obtain ⟨od, kvs, h1, h2⟩ := g2
        exact .inl (.dct (.inr ⟨od, h1⟩) h2)
      | kn c' =>
        cases c' with
        | lst ps =>
          obtain ⟨ds, h3, rfl⟩ := Option.map_eq_some_iff.mp e
          obtain ⟨vs, h4, h5⟩ := g2
          exact .inl (.lst h4 (datsP_dv h5 h3))
        | dct ps =>
          obtain ⟨ds, h3, rfl⟩ := Option.map_eq_some_iff.mp e
          obtain ⟨vs, h4, h5⟩ := g2
          exact .inl (.dct (.inl h4) (datsK_dv h5 h3))
        | _ => cases e
theorem Rel.view (R : Rel K B env σ Hk H) (h : RsOk K σ Hk r v) (e : rdv env r = some d) : View K Hk H v d := by
  cases r with
  | pv p => exact R.viewP h e
  | dat d' =>
    cases e
    exact .inl h
  | new c => exact False.elim h
  | slt i =>
    have h : σ[i]? = some (some v) := h
    cases q : env[i]? with
    | none =>
      simp only [rdv, q] at e
      cases e
    | some s =>
      obtain ⟨o, h1, h2⟩ := R.slot i s q
      rw [h] at h1
      cases h1
      simp only [rdv, q] at e
      cases s with
      | no => cases e
      | scr ns => cases e
      | pin a => cases e
      | pv p => cases e
      | sto M => cases e
      | val d' =>
        cases e
        obtain ⟨v', e1, z⟩ := h2
        cases e1
        exact .inl z
      | own c =>
        cases e
        obtain ⟨a, e1, q1, q2, q3⟩ := h2
        cases e1
        exact .inr ⟨a, c, rfl, rfl, q3⟩
      | io k c =>
        cases e
        obtain ⟨a, e1, q1, q2, q3⟩ := h2
        cases e1
        exact .inr ⟨a, c, rfl, rfl, q3⟩
theorem View.int {Hk : Hp} {i : Int} (h : View K Hk H v (.int i)) : v = .int i := by
  rcases h with h | ⟨a, c, rfl, e, _⟩
  · cases h; rfl
  · cases c <;> cases e
theorem View.str {Hk : Hp} {x : Str} (h : View K Hk H v (.str x)) : v = .str x := by
  rcases h with h | ⟨a, c, rfl, e, _⟩
  · cases h; rfl
  · cases c <;> cases e
theorem View.bool {Hk : Hp} {b : Bool} (h : View K Hk H v (.bool b)) : v = .bl b := by
  rcases h with h | ⟨a, c, rfl, e, _⟩
  · cases h; rfl
  · cases c <;> cases e
theorem View.non {Hk : Hp} (h : View K Hk H v .none) : v = .non := by
  rcases h with h | ⟨a, c, rfl, e, _⟩
  · cases h; rfl
  · cases c <;> cases e
theorem View.list {Hk : Hp} {ds : List PyData} (h : View K Hk H v (.list ds)) (e : Same Hk H) : ∃ a vs, v = .ref a ∧ H a = some (.lst vs) ∧ DvAll K Hk vs ds := by
  rcases h with h | ⟨a, c, rfl, q, h1⟩
  · cases h with
    | lst h1 h2 => exact ⟨_, _, rfl, e _ _ h1, h2⟩
  · cases c with
    | dct _ => cases q
    | lst ds' =>
      cases q
      obtain ⟨vs, h1, h2⟩ := h1
      exact ⟨a, vs, rfl, h1, h2⟩
theorem View.dict {Hk : Hp} {es : List (PyData × PyData)} (h : View K Hk H v (.dict es)) (e : Same Hk H) : ∃ a kvs, v = .ref a ∧ Rd H a (.dK kvs) ∧ DvKv K Hk kvs es := by
  rcases h with h | ⟨a, c, rfl, q, h1⟩
  · cases h with
    | dct h1 h2 => exact ⟨_, _, rfl, same_rd e h1, h2⟩
  · cases c with
    | lst _ => cases q
    | dct es' =>
      cases q
      obtain ⟨vs, h1, h2⟩ := h1
      exact ⟨a, vs, rfl, .inl h1, h2⟩
theorem View.tup {Hk : Hp} {ds : List PyData} (h : View K Hk H v (.tuple ds)) (e : Same Hk H) : ∃ a vs, v = .ref a ∧ SqT K H a vs ∧ DvAll K Hk vs ds := by
  rcases h with h | ⟨a, c, rfl, q, h1⟩
  · cases h with
    | tup h1 h2 => exact ⟨_, _, rfl, same_tup e h1, h2⟩
  · cases c <;> cases q
end
theorem _root_.L2.PE.imp {X : Cx} {e : Expr} {t t' : TE} (h : PE X e t) (k : ∀ σ H Q, t' σ H Q → t σ H Q) : PE X e t' := ⟨fun pins s σ H Q I q => h.run pins s σ H Q I (k σ H Q q)⟩
theorem _root_.L2.PT.imp {X : Cx} {e : Expr} {t t' : TT} (h : PT X e t) (k : ∀ σ H Q, t' σ H Q → t σ H Q) : PT X e t' := ⟨fun pins s σ H Q I q => h.run pins s σ H Q I (k σ H Q q)⟩
theorem _root_.L2.PW.imp {X : Cx} {e : Expr} {t t' : TT} (h : PW X e t) (k : ∀ σ H Q, t' σ H Q → t σ H Q) : PW X e t' := ⟨fun wh pins s σ H Q I q => h.run wh pins s σ H Q I (k σ H Q q)⟩
theorem _root_.L2.PA.imp {X : Cx} {e : List Expr} {t t' : TA} (h : PA X e t) (k : ∀ σ H Q, t' σ H Q → t σ H Q) : PA X e t' := ⟨fun pos pins s σ H Q I q => h.run pos pins s σ H Q I (k σ H Q q)⟩
abbrev VE (X : Cx) (e : Expr) (m : ME) : Prop := PE X e (tE X.K m)
def frz : Res × Sl → Option (Res × Sl)
  | (.dat d, e) => some (.dat d, e)
  | (.new c, e) => some (.dat c.dat, e)
  | (.pv (.dat d), e) => some (.dat d, e)
  | (.pv _, _) => none
  | (.slt i, e) => match e[i]? with
    | some (.val d) => some (.dat d, e)
    | some (.own c) => some (.dat c.dat, e.set i (.val c.dat))
    | _ => none
section
variable {X : Cx} {K : PySem.W.Frag}
theorem Rel.frz {B : Fb} {env env' : Sl} {σ : St} {Hk : Kn} {H : Hp} {r r' : Res} {v : V} (R : Rel K B env σ Hk H) (o : ResOk K B env σ Hk H r v) (h : Cm.frz (r, env) = some (r', env')) :
    ∃ Hk' : Kn, ∃ d, r' = .dat d ∧ Rel K B env' σ Hk' H ∧ KSame Hk Hk' ∧ Dv K Hk' v d := by
  cases r with
  | dat d =>
    cases h
    exact ⟨Hk, d, rfl, R, .refl _, o⟩
  | new c =>
    cases h
    obtain ⟨Hk', R', s, q⟩ := R.stab o
    exact ⟨Hk', _, rfl, R', s, q⟩
  | pv p =>
    cases p with
    | dat d =>
      cases h
      cases o with
      | dat q => exact ⟨Hk, d, rfl, R, .refl _, q⟩
    | ref n => cases h
    | tup ps => cases h
  | slt i =>
    unfold Cm.frz at h
    have o : σ[i]? = some (some v) := o
    cases q : env[i]? with
    | none => simp only [q] at h; cases h
    | some s =>
      simp only [q] at h
      cases s with
      | no => cases h
      | scr ns => cases h
      | pin a => cases h
      | pv p => cases h
      | sto M => cases h
      | io k c => cases h
      | val d =>
        cases h
        obtain ⟨o', h1, v', e1, z⟩ := R.slot i _ q
        rw [o] at h1
        cases h1
        cases e1
        exact ⟨Hk, d, rfl, R, .refl _, z⟩
      | own c =>
        cases h
        obtain ⟨a, Hk', h1, R', s, z⟩ := R.freezeC q
        rw [o] at h1
        cases h1
        exact ⟨Hk', _, rfl, R', s, z⟩
end
inductive ViewAll (K : PySem.W.Frag) (Hk H : Hp) : List V → List PyData → Prop
  | nil : ViewAll K Hk H [] []
  | cons {v : V} {vs : List V} {d : PyData} {ds : List PyData} : View K Hk H v d → ViewAll K Hk H vs ds → ViewAll K Hk H (v :: vs) (d :: ds)
inductive Fl where
  | nx
  | bk
  | ct
  | rt (r : Res)
  /-- an exception of a class of the module, its fields -/
  | ex (C : Str) (fs : List (Str × PyData))
abbrev MS := Sl → Option (Fl × Sl)
inductive ExFs (K : PySem.W.Frag) (Hk : Hp) : List (Str × V) → List (Str × PyData) → Prop
  | nil : ExFs K Hk [] []
  | cons {k : Str} {v : V} {d : PyData} {vs : List (Str × V)} {ds : List (Str × PyData)} : Dv K Hk v d → ExFs K Hk vs ds → ExFs K Hk ((k, v) :: vs) ((k, d) :: ds)
theorem ExFs.mono {K : PySem.W.Frag} {Hk Hk' : Hp} (e : Same Hk Hk') : ∀ {vs : List (Str × V)} {ds : List (Str × PyData)}, ExFs K Hk vs ds → ExFs K Hk' vs ds
  | _, _, .nil => .nil
  | _, _, .cons h1 h2 => .cons (dv_mono e _ _ h1) (ExFs.mono e h2)
def ExOk (K : PySem.W.Frag) (Hk H : Hp) (d : Option Addr) (fs : List (Str × PyData)) : Prop := match d with
  | none => fs = []
  | some dd => ∃ vs, H dd = some (.xd vs) ∧ ExFs K Hk vs fs
def Fin (K : PySem.W.Frag) (B : Fb) (W : WX) (D : Ends) (f : Fl) (env : Sl) (σ : St) (Hk : Kn) (H : Hp) : Prop := match f with
  | .nx => D.nx σ H
  | .bk => D.bk σ H
  | .ct => D.ct σ H
  | .rt r => ∀ v, ResOk K B env σ Hk H r v → D.rt v H
  | .ex C fs => ∀ d, ExOk K Hk H d fs → W (.ref (He.ga K C)) d σ H
def tS (K : PySem.W.Frag) (W : WX) (m : MS) : TS := fun D σ H => ∃ B env Hk f env', Rel K B env σ Hk H ∧ m env = some (f, env') ∧
  ∀ σ' Hk' H', Rel K B env' σ' Hk' H' → KSame Hk Hk' → Fin K B W D f env' σ' Hk' H'
theorem _root_.L2.PS.imp {X : Cx} {e : Stmt} {t t' : TS} (h : PS X e t) (k : ∀ D σ H, t' D σ H → t D σ H) : PS X e t' := ⟨fun pins s σ H D I q => h.run pins s σ H D I (k D σ H q)⟩
theorem _root_.L2.PSs.imp {X : Cx} {e : List Stmt} {t t' : TS} (h : PSs X e t) (k : ∀ D σ H, t' D σ H → t D σ H) : PSs X e t' := ⟨fun pins s σ H D I q => h.run pins s σ H D I (k D σ H q)⟩
theorem _root_.L2.PI.imp {X : Cx} {tg e : Expr} {t t' : TI} (h : PI X tg e t) (k : ∀ σ H R, t' σ H R → t σ H R) : PI X tg e t' := ⟨fun pins s σ H R I q => h.run pins s σ H R I (k σ H R q)⟩
theorem _root_.L2.PG.imp {X : Cx} {e : Expr} {t t' : TG} (h : PG X e t) (k : ∀ v σ H Q, t' v σ H Q → t v σ H Q) : PG X e t' := ⟨fun pins s σ H v u Q I r q => h.run pins s σ H v u Q I r (k v σ H Q q)⟩
theorem _root_.L2.PGs.imp {X : Cx} {e : List Expr} {t t' : TGs} (h : PGs X e t) (k : ∀ v σ H Q, t' v σ H Q → t v σ H Q) : PGs X e t' := ⟨fun pins s σ H v u Q I r q => h.run pins s σ H v u Q I r (k v σ H Q q)⟩
def VS (X : Cx) (s : Stmt) (m : MS) : Prop := ∀ W, Takes X W → PS X s (tS X.K W m)
def VSs (X : Cx) (s : List Stmt) (m : MS) : Prop := ∀ W, Takes X W → PSs X s (tS X.K W m)
theorem VS.imp {X : Cx} {e : Stmt} {m m' : MS} (h : VS X e m) (k : ∀ W D σ H, tS X.K W m' D σ H → tS X.K W m D σ H) : VS X e m' := fun W t => (h W t).imp (k W)
theorem VSs.imp {X : Cx} {e : List Stmt} {m m' : MS} (h : VSs X e m) (k : ∀ W D σ H, tS X.K W m' D σ H → tS X.K W m D σ H) : VSs X e m' := fun W t => (h W t).imp (k W)
def Fb.guard (B : Fb) (p : Addr) (o : HO) : Fb := ⟨B.K0, upd B.H0 p o, B.A, B.P, B.S⟩
section
variable {K : PySem.W.Frag} {B : Fb} {env : Sl} {σ : St} {Hk : Kn} {H : Hp} {p : Addr} {o : HO}
theorem Rel.guard (R : Rel K B env σ Hk H) (h : H p = some o) (hk : Hk p = none) (h0 : B.H0 p = none) (hP : ∀ (n : Nat), Hk.P n ≠ some p) (hn : ∀ (j : Nat) s, env[j]? = some s → s.mut → σ[j]? ≠ some (some (V.ref p))) : Rel K (B.guard p o) env σ Hk H where
  ex := R.ex
  kn := R.kn
  fr := fun a h1 h2 => by
    have ne : a ≠ p := fun z => h1 (by rw [z]; exact hk)
    show upd B.H0 p o a = none
    rw [upd_ne ne]
    exact R.fr a h1 h2
  kp := fun a u h1 h2 => by
    by_cases e : a = p
    · subst e
      have h1 : upd B.H0 a o a = some u := h1
      rw [upd_same] at h1
      rw [← h1]
      exact h
    · have h1 : upd B.H0 p o a = some u := h1
      rw [upd_ne e] at h1
      exact R.kp a u h1 h2
  oin := R.oin
  o0 := fun a ha => by
    show upd B.H0 p o a ≠ none
    by_cases e : a = p
    · rw [e, upd_same]
      exact fun z => nomatch z
    · rw [upd_ne e]
      exact R.o0 a ha
  len := R.len
  slot := fun i s hi => by
    obtain ⟨u, h1, h2⟩ := R.slot i s hi
    refine ⟨u, h1, ?_⟩
    cases s with
    | no => trivial
    | val d => exact h2
    | scr d => exact h2
    | pin a => exact h2
    | pv p => exact h2
    | sto M => trivial
    | io k c => exact h2
    | own c =>
      obtain ⟨a, e1, q1, q2, q3⟩ := h2
      have ne : a ≠ p := fun z => by
        subst e1 z
        exact hn i _ hi trivial h1
      refine ⟨a, e1, q1, ?_, q3⟩
      show upd B.H0 p o a = none
      rw [upd_ne ne]
      exact q2
  sep := R.sep
  sok := fun M h => let S := R.sok M h; ⟨S.cel, S.inj, S.top⟩
  pin := fun n a h => by
    refine ⟨(R.pin n a h).1, fun z => ?_⟩
    have ne : a ≠ p := fun e => hP n (e ▸ h)
    rcases (R.pin n a h).2 z with q | q
    · refine .inl ?_
      show upd B.H0 p o a = none
      rw [upd_ne ne]
      exact q
    · exact .inr q
  psep := R.psep
theorem Rel.other (R : Rel K B env σ Hk H) {u : HO} (hk : Hk p = none) (h0 : B.H0 p = none) (hP : ∀ (n : Nat), Hk.P n ≠ some p) (hx : ∀ x, H p ≠ some (.own x)) (hn : ∀ (j : Nat) s, env[j]? = some s → s.mut → σ[j]? ≠ some (some (V.ref p))) : Rel K B env σ Hk (upd H p u) where
  ex := fun b x e => by
    have ne : b ≠ p := fun z => by rw [z, hk] at e; cases e
    rw [upd_ne ne]
    exact R.ex _ _ e
  kn := R.kn
  fr := R.fr
  kp := fun a x h1 h2 => by
    have ne : a ≠ p := fun z => by rw [z, h0] at h1; cases h1
    rw [upd_ne ne]
    exact R.kp a x h1 h2
  oin := fun a ha => by
    refine ⟨?_, (R.oin a ha).2⟩
    by_cases e : a = p
    · rw [e, upd_same]
      exact fun z => nomatch z
    · rw [upd_ne e]
      exact (R.oin a ha).1
  o0 := R.o0
  len := R.len
  slot := fun i s hi => by
    obtain ⟨x, h1, h2⟩ := R.slot i s hi
    refine ⟨x, h1, ?_⟩
    cases s with
    | no => trivial
    | val d => exact h2
    | scr d => exact h2
    | pin a => exact h2
    | pv p => exact h2
    | sto M => trivial
    | own c =>
      obtain ⟨a, e1, q1, q2, q3⟩ := h2
      have ne : a ≠ p := fun z => by
        subst e1 z
        exact hn i _ hi trivial h1
      exact ⟨a, e1, q1, q2, q3.mono (.refl _) fun o z => by rw [upd_ne ne]; exact z⟩
    | io k c =>
      obtain ⟨a, e1, q1, q2, q3⟩ := h2
      have ne : a ≠ p := fun z => by
        subst e1 z
        exact hn i _ hi trivial h1
      exact ⟨a, e1, q1, q2, q3.mono (.refl _) fun o z => by rw [upd_ne ne]; exact z⟩
  sep := R.sep
  sok := fun M h => (R.sok M h).mono (.refl _) rfl (fun _ _ _ z => z) (fun b o ⟨n, hb⟩ z => by
    have ne : b ≠ p := fun e => hP n (e ▸ hb)
    rw [upd_ne ne]
    exact z) fun dx b z => by
    have ne : dx ≠ p := fun e => hx b (e ▸ z)
    rw [upd_ne ne]
    exact z
  pin := fun n b h => by
    have ne : b ≠ p := fun e => hP n (e ▸ h)
    rw [upd_ne ne]
    exact R.pin n b h
  psep := R.psep
end
def NewAt (r : Res) (v : V) (a : Addr) : Prop := (∃ c, r = .new c) ∧ v = .ref a
inductive RuAll (K : PySem.W.Frag) (B : Fb) (env : Sl) (σ : St) (Hk : Kn) (H : Hp) : List Res → List V → Prop
  | nil : RuAll K B env σ Hk H [] []
  | cons {r : Res} {v : V} {rs : List Res} {vs : List V} : ResOk K B env σ Hk H r v → (∀ i, r ≠ .slt i) → RuAll K B env σ Hk H rs vs → (∀ a, NewAt r v a → ∀ (j : Nat) r' v', rs[j]? = some r' → vs[j]? = some v' → ¬ NewAt r' v' a) → RuAll K B env σ Hk H (r :: rs) (v :: vs)
abbrev MG := PyData → Sl → Option Sl
abbrev MGs := List PyData → Sl → Option Sl
abbrev MI := Sl → Option (List PyData × Sl)
section
variable {X : Cx} {K : PySem.W.Frag} {js : List Nat} {g : MG} {t : MT} {me : ME} {mi : MI} {pos : Pos}
theorem _root_.L2.PTs.imp {X : Cx} {e : List Expr} {t t' : TT} (h : PTs X e t) (k : ∀ σ H Q, t' σ H Q → t σ H Q) : PTs X e t' := ⟨fun pins s σ H Q I q => h.run pins s σ H Q I (k σ H Q q)⟩
end
end Cm
namespace Cm
open PySem PySem.Spec PyProof.Rows L2
abbrev FM := Sl → Option (Res × Sl)
def ArgOk (K : PySem.W.Frag) (Hk H : Hp) (s : Slot) (v : V) : Prop := match s with
  | .val d => Dv K Hk v d
  | .io _ c => ∃ a, v = .ref a ∧ Hk a = none ∧ CellAt K Hk H a c
  | .scr ns => ∃ a, v = .ref a ∧ SqL K Hk a (ns.map V.int)
  | _ => False
structure ArgsOk (K : PySem.W.Frag) (Hk H : Hp) (ins : Sl) (vs : List V) : Prop where
  len : ins.length = vs.length
  arg : ∀ (i : Nat) s v, ins[i]? = some s → vs[i]? = some v → ArgOk K Hk H s v
  ix : ∀ (i k : Nat) c, ins[i]? = some (.io k c) → k = i
  sep : ∀ (i j k l : Nat) c c' a, ins[i]? = some (.io k c) → ins[j]? = some (.io l c') → vs[i]? = some (V.ref a) → vs[j]? = some (V.ref a) → i = j
def ioA (ins : Sl) (vs : List V) (k : Nat) : Option Addr := match ins[k]?, vs[k]? with
  | some (.io _ _), some (.ref a) => some a
  | _, _ => none
def FRes (K : PySem.W.Frag) (H Hk' H' : Hp) (r : Res) (v : V) : Prop := match r with
  | .dat d => Dv K Hk' v d
  | .new c => ∃ a, v = .ref a ∧ Hk' a = none ∧ H a = none ∧ CellAt K Hk' H' a c
  | _ => False
structure PostF (K : PySem.W.Frag) (Hk H : Hp) (ins : Sl) (vs : List V) (outs : Sl) (r : Res) (v : V) (Hk' H' : Hp) : Prop where
  kn : Same Hk Hk'
  ex : Same Hk' H'
  fr : ∀ a, Hk' a ≠ none → Hk a = none → H a = none
  kp : ∀ a o, H a = some o → (∀ k, ioA ins vs k ≠ some a) → H' a = some o
  io : ∀ k a, ioA ins vs k = some a → ∃ c', outs[k]? = some (.io k c') ∧ Hk' a = none ∧ CellAt K Hk' H' a c'
  res : FRes K H Hk' H' r v
def ioKept : Sl → Sl → Bool
  | .io k _ :: s, .io l _ :: t => k == l && ioKept s t
  | .io _ _ :: _, _ => false
  | _ :: s, _ :: t => ioKept s t
  | _ :: s, [] => ioKept s []
  | [], _ => true
section
variable {P : Program} {w : World} {K : PySem.W.Frag} {mg : Str → Option Value} {base : Heap}
open Classical in
noncomputable def Kn.all (Hk : Kn) (H : Hp) : Hp := fun a => if ∃ n, Hk.P n = some a then H a else Hk a
end
end Cm
namespace Cm
open PySem L2
def flatD : PyData → Bool
  | .none => true
  | .bool _ => true
  | .int _ => true
  | .str _ => true
  | _ => false
def flatR : Res → Bool
  | .dat d => flatD d
  | .new (.lst ds) => ds.all flatD
  | .new (.dct es) => es.all fun p => flatD p.2
  | _ => false
def flatS : Slot → Bool
  | .io _ (.lst ds) => ds.all flatD
  | .io _ (.dct es) => es.all fun p => flatD p.2
  | _ => true
section
variable {X : Cx} {K : PySem.W.Frag} {B : Fb} {env : Sl} {σ : St} {Hk Hk' : Kn} {H H' : Hp}
theorem RsAll.len : ∀ {rs : List Res} {vs : List V}, RsAll K σ Hk rs vs → rs.length = vs.length
  | _, _, .nil => rfl
  | _, _, .cons _ h => by
    have := RsAll.len h
    simp [this]
theorem CellAt.slot (R : Rel K B env σ Hk H) {j : Nat} {s : Slot} {c : Cell} {a : Addr} (hs : env[j]? = some s) (hc : s = .own c ∨ ∃ l, s = .io l c) (ha : σ[j]? = some (some (V.ref a))) : CellAt K Hk H a c := by
  obtain ⟨o, h1, h2⟩ := R.slot j s hs
  rw [ha] at h1
  cases h1
  rcases hc with rfl | ⟨l, rfl⟩
  · obtain ⟨b, e1, _, _, q⟩ := h2
    cases e1
    exact q
  · obtain ⟨b, e1, _, _, q⟩ := h2
    cases e1
    exact q
end
section
variable {X : Cx} {K : PySem.W.Frag}
abbrev MO := Sl → Option (Option Int × Sl)
theorem _root_.L2.PO.imp {X : Cx} {e : Option Expr} {t t' : TO} (h : PO X e t) (k : ∀ σ H Q, t' σ H Q → t σ H Q) : PO X e t' := ⟨fun pins s σ H Q I q => h.run pins s σ H Q I (k σ H Q q)⟩
end
def spLaw (K : PySem.W.Frag) : Sp := fun vs H Q _ => ∃ (a : Addr) (ns : List Int), vs = [.ref a] ∧ SqL K H a (ns.map V.int) ∧ ns.length ≤ 63 ∧ ∀ H', Q (.bl true) H'
section
variable {α β γ δ ε ζ : Type}
def eO (e : α → PyData) : Option α → PyData
  | none => .none
  | some x => e x
end
structure EqE {α : Type} (e : α → PyData) [DecidableEq α] : Prop where
  eq : ∀ x y, PyData.eqv (e x) (e y) = decide (x = y)
section
variable {α β γ ρ σ τ : Type}
inductive Fw (ρ σ : Type) where
  | nx (s : σ)
  | bk (s : σ)
  | rt (r : ρ)
end
section
variable {α β γ σ τ : Type}
def mapO (f : α → Option τ) : List α → Option (List τ)
  | [] => some []
  | x :: xs => (f x).bind fun y => (mapO f xs).map (y :: ·)
end
def Bok (b : List Int) (n : Int) : Prop := ∃ a v c : Int, b = [a, v, c] ∧ 0 ≤ a ∧ 0 ≤ c ∧ c ≤ n
theorem Bok.mono {b : List Int} {n k : Int} (h : Bok b n) (e : n ≤ k) : Bok b k := let ⟨a, v, c, h1, h2, h3, h4⟩ := h; ⟨a, v, c, h1, h2, h3, Int.le_trans h4 e⟩
theorem flat_eO {α : Type} {e : α → PyData} {z : Option α} (h : ∀ x, flatD (e x) = true) : flatD (eO e z) = true := by
  cases z with
  | none => rfl
  | some x => exact h x
def keyOf : PyData → Option Key
  | .int i => some (.inl i)
  | .str x => some (.inr x)
  | _ => none
def dGet (es : List (PyData × PyData)) (k : Key) : Option PyData := (es.find? fun p => decide (keyOf p.1 = some k)).map (·.2)
section
variable {K : PySem.W.Frag} {Hk H : Hp}
theorem View.key {v : V} {d : PyData} {k : Key} (h : View K Hk H v d) (e : keyOf d = some k) : v = kV k := by
  cases d with
  | int i => cases e; exact h.int
  | str x => cases e; exact h.str
  | _ => cases e
end
section
variable {X : Cx} {K : PySem.W.Frag} {B : Fb} {env : Sl} {σ : St} {Hk : Kn} {H : Hp}
def Fb.hold (B : Fb) (p : Addr) (o : HO) : Fb := B.guard p o
theorem Rel.hold (R : Rel K B env σ Hk H) {p : Addr} {o : HO} (h : H p = none) : Rel K (B.hold p o) env σ Hk (upd H p o) :=
  (R.laid h).guard upd_same (R.kfree h) (R.fresh0 h) (R.pfree h) fun j s hj hm => R.mutNe h hj hm
inductive PrsAll (K : PySem.W.Frag) (Hk : Hp) : List (V × V) → List (PyData × PyData) → Prop
  | nil : PrsAll K Hk [] []
  | cons {v w : V} {k d : PyData} {ps : List (V × V)} {es : List (PyData × PyData)} : Dv K Hk v k → Dv K Hk w d → PrsAll K Hk ps es → PrsAll K Hk ((v, w) :: ps) ((k, d) :: es)
inductive VPs (X : Cx) : List (Option Expr) → List Expr → List (ME × ME) → Prop
  | nil : VPs X [] [] []
  | cons {k v : Expr} {mk mv : ME} {ks : List (Option Expr)} {vs : List Expr} {l : List (ME × ME)} : VE X k mk → VE X v mv → VPs X ks vs l → VPs X (some k :: ks) (v :: vs) ((mk, mv) :: l)
end
section
variable {X : Cx} {K : PySem.W.Frag} {B : Fb} {env : Sl} {σ : St} {Hk : Kn} {H : Hp}
def lk : Res × Sl → Option (List (PyData × PyData) × Sl)
  | (.new (.dct es), e) => some (es, e)
  | (.slt i, e) => match e[i]? with
    | some (.own (.dct es)) => some (es, e.set i (.val (.dict es)))
    | _ => none
  | _ => none
theorem Rel.lk (R : Rel K B env σ Hk H) {r : Res} {v : V} {es : List (PyData × PyData)} {env' : Sl} (o : ResOk K B env σ Hk H r v) (h : Cm.lk (r, env) = some (es, env')) :
    ∃ d kvs, v = .ref d ∧ H d = some (.dK kvs) ∧ DvKv K Hk kvs es ∧ ∀ od, Rel K B env' σ (Hk.upd d (.frz od (.dK kvs))) (upd H d (.frz od (.dK kvs))) ∧ KSame Hk (Hk.upd d (.frz od (.dK kvs))) := by
  cases r with
  | dat d => cases h
  | pv p => cases h
  | new c =>
    cases c with
    | lst ds => cases h
    | dct es' =>
      cases h
      obtain ⟨a, rfl, h1, h2, ⟨kvs, h3, h4⟩, hP, h5⟩ := o
      refine ⟨a, kvs, rfl, h3, h4, fun od => ⟨?_, ksame_upd h1⟩⟩
      exact (R.other (u := .frz od (.dK kvs)) h1 h2 hP (fun x z => by rw [h3] at z; cases z) h5).know upd_same h1 h2 hP h5
  | slt i =>
    unfold Cm.lk at h
    have o : σ[i]? = some (some v) := o
    cases q : env[i]? with
    | none => simp only [q] at h; cases h
    | some s =>
      simp only [q] at h
      cases s with
      | no => cases h
      | scr ns => cases h
      | pin a => cases h
      | pv p => cases h
      | sto M => cases h
      | io k c => cases h
      | val d => cases h
      | own c =>
        cases c with
        | lst ds => cases h
        | dct es' =>
          cases h
          obtain ⟨o', g1, a, e1, q1, q2, kvs, q3, q4⟩ := R.slot i _ q
          rw [o] at g1
          cases g1
          cases e1
          refine ⟨a, kvs, rfl, q3, q4, fun od => ⟨?_, ksame_upd q1⟩⟩
          have hlt : i < σ.length := (List.getElem?_eq_some_iff.mp o).1
          have R1 : Rel K B (env.set i .no) σ Hk H := by
            have := R.setNo (i := i) (o := some (.ref a))
            rwa [show σ.set i (some (.ref a)) = σ from by
              apply List.ext_getElem?
              intro n
              by_cases e : i = n
              · subst e
                rw [List.getElem?_set_self hlt, o]
              · rw [List.getElem?_set_ne e]] at this
          have hn : ∀ (j : Nat) s, (env.set i .no)[j]? = some s → s.mut → σ[j]? ≠ some (some (V.ref a)) := fun j s hj hm z => by
            rcases set_get hj with ⟨rfl, rfl⟩ | ⟨hne, hj⟩
            · cases hm
            · exact hne (R.sep j i s _ a hj q hm trivial z o)
          have hP : ∀ (n : Nat), Hk.P n ≠ some a := fun n => R.psep i _ a n q trivial o
          have R2 := (R1.other (u := .frz od (.dK kvs)) q1 q2 hP (fun x z => by rw [q3] at z; cases z) hn).know upd_same q1 q2 hP hn
          have R3 := R2.setVal (i := i) (v := .ref a) (d := .dict es) (.dct (.inr ⟨od, show upd Hk.k a _ a = _ from upd_same⟩) (dvKv_mono (same_upd q1) q4))
          rw [List.set_set] at R3
          rwa [show σ.set i (some (.ref a)) = σ from by
            apply List.ext_getElem?
            intro n
            by_cases e : i = n
            · subst e
              rw [List.getElem?_set_self hlt, o]
            · rw [List.getElem?_set_ne e]] at R3
end
section
variable {X : Cx} {K : PySem.W.Frag} {B : Fb} {env : Sl} {σ : St} {Hk : Kn} {H : Hp}
mutual
theorem dp_mono {H' : Hp} (e : Same H H') : ∀ {v : V} {d : PyData}, Dp K H v d → Dp K H' v d
  | _, _, .non => .non
  | _, _, .bl b => .bl b
  | _, _, .int i => .int i
  | _, _, .str x => .str x
  | _, _, .lst h q => .lst (e.seq h) (dpAll_mono e q)
  | _, _, .tup h q => .tup (same_tup e h) (dpAll_mono e q)
theorem dpAll_mono {H' : Hp} (e : Same H H') : ∀ {v : List V} {d : List PyData}, DpAll K H v d → DpAll K H' v d
  | _, _, .nil => .nil
  | _, _, .cons h1 h2 => .cons (dp_mono e h1) (dpAll_mono e h2)
end
end
section
variable {P : Program} {w : World} {fd : FuncData} {x : Str}
def KX (P : Program) (w : World) (fd : FuncData) (x : Str) (e : Expr) (f : PyData → Option PyData) : Prop :=
  ∀ (s0 : Shared) (L a : Addr) (m : Str → Option Value) (u : Value) (d k : PyData), fd.scope.kind = .function → (callEnv fd L a).kindOf x = some .local → m x = some u → Reads s0.heap u d [] → f d = some k →
    ∀ (A : Around) (E : Value → Shared → Prop) (s : Shared) (Q : Value → Shared → Prop), InCall s0 L m s → (∀ v s', InCall s0 L m s' → (∀ b o, s.heap.get? b = some o → s'.heap.get? b = some o) → Reads s'.heap v k [] → Q v s') →
      wpAny (model P w) A (eval e (callEnv fd L a)) Q E s
end
mutual
def noL : PyData → Bool
  | .list _ => false
  | .dict _ => false
  | .tuple ds => noLs ds
  | _ => true
def noLs : List PyData → Bool
  | [] => true
  | d :: ds => noL d && noLs ds
end
section
variable {X : Cx} {K : PySem.W.Frag} {B : Fb} {env : Sl} {σ : St} {Hk H : Hp}
mutual
theorem reads0 {pins : List (Addr × Obj)} {s : Shared} (I : Inv X pins σ H s) : ∀ {v : V} {d : PyData}, Dv X.K H v d → noL d = true → ∀ u, RelV v u → Reads s.heap u d []
  | _, _, .non, _, u, r => by cases r; exact .none
  | _, _, .bl b, _, u, r => by cases r; exact .bool b
  | _, _, .int i, _, u, r => by obtain ⟨t, rfl⟩ := r; exact .int i t
  | _, _, .str x, _, u, r => by obtain ⟨t, rfl⟩ := r; exact .str x t
  | _, _, .lst _ _, h, _, _ => by simp [noL] at h
  | _, _, .dct _ _, h, _, _ => by simp [noL] at h
  | _, _, .tup h q, hn, u, r => by
    cases r
    obtain ⟨its, rv, ⟨o, g1, g2, n, g3⟩, _⟩ := I.tuple h
    exact .tuple g1 g2 g3 (readsAll0 I q (by simpa [noL] using hn) _ rv)
theorem readsAll0 {pins : List (Addr × Obj)} {s : Shared} (I : Inv X pins σ H s) : ∀ {vs : List V} {ds : List PyData}, DvAll X.K H vs ds → noLs ds = true → ∀ us, Vals vs us → ReadsAll s.heap us ds []
  | _, _, .nil, _, us, r => by cases r; exact .nil
  | _, _, .cons (d := d) (ds := ds) h1 h2, hn, us, r => by
    have hn : noL d = true ∧ noLs ds = true := by simpa [noLs] using hn
    cases r with
    | cons r1 r2 => exact .cons (bs := []) (reads0 I h1 hn.1 _ r1) (readsAll0 I h2 hn.2 _ r2)
end
end
section
variable {α β : Type}
structure KeyE (e : α → PyData) (kk : α → Key) : Prop where
  key : ∀ a, keyOf (e a) = some (kk a)
  inj : ∀ a b, kk a = kk b → a = b
  kd : ∀ a, keyD (kk a) = e a
end
def lkL {β : Type} (L : List (Key × β)) (k : Key) : Option β := (L.find? fun p => decide (p.1 = k)).map (·.2)
def KD (w : World) (K : PySem.W.Frag) (a : Addr) (L : List (Key × PyData)) : Prop :=
  (a == sysModules) = false ∧ ∃ (o : Obj) (es : Array DictEntry) (ep : Nat), K.lookup a = some o ∧ o.ExactDict ∧ o.data = .dict es ep ∧ (∀ e ∈ es, ∃ k, keyIs k e.key = true ∧ e.hash = keyH w k) ∧
    ∀ k, (findBy keyIs es k = none ∧ lkL L k = none) ∨ ∃ u v d, findBy keyIs es k = some u ∧ RelV v u ∧ lkL L k = some d ∧ ∀ H, Dv K H v d
section
variable {X : Cx} {K : PySem.W.Frag} {a : Addr} {L : List (Key × PyData)} {x : Str} {i e : Expr} {ty : TE} {p pos apos cpos : Pos}
theorem KD.map {pins : List (Addr × Obj)} {σ : St} {H : Hp} {s : Shared} (D : KD X.w X.K a L) (I : Inv X pins σ H s) : ∃ f, s.heap.MapOf (mixKind X.prog X.w) a f ∧ ∀ k, (f k = none ∧ lkL L k = none) ∨ ∃ u v d, f k = some u ∧ RelV v u ∧ lkL L k = some d ∧ ∀ H, Dv X.K H v d := by
  obtain ⟨_, o, es, ep, h1, h2, h3, h4, h5⟩ := D
  exact ⟨findBy keyIs es, ⟨o, es, ep, I.kIn a o h1, h2, h3, h4, fun _ => rfl⟩, h5⟩
end
section
variable {τ γ β : Type} {ev : τ → PyData} {env e : Sl}
def kS : Key → Option Str
  | .inr s => some s
  | .inl _ => none
end
def rdK (K : PySem.W.Frag) : Nat → Value → Option PyData
  | 0 => fun _ => none
  | n + 1 => fun v => match v with
    | .none => some .none
    | .bool b => some (.bool b)
    | .int i _ => some (.int i)
    | .str x _ => some (.str x)
    | .ref a => match K.lookup a with
      | some ⟨.type c, _, .seq its _, _⟩ => if c = "tuple" ∧ its.size ≤ sizeLine then (mapO (rdK K n) its.toList).map .tuple else none
      | _ => none
    | _ => none
theorem rdKs_ok {K : PySem.W.Frag} {f : Value → Option PyData} (hf : ∀ u d, f u = some d → ∃ v, RelV v u ∧ ∀ H, Dv K H v d) : ∀ (us : List Value) (ds : List PyData), mapO f us = some ds → ∃ vs, Vals vs us ∧ ∀ H, DvAll K H vs ds
  | [], _, h => by cases h; exact ⟨[], .nil, fun _ => .nil⟩
  | u :: us, ds, h => by
    obtain ⟨d, h1, h⟩ := Option.bind_eq_some_iff.mp (show (f u).bind _ = _ from h)
    obtain ⟨ds', h2, rfl⟩ := Option.map_eq_some_iff.mp h
    obtain ⟨v, a1, a2⟩ := hf u d h1
    obtain ⟨vs, b1, b2⟩ := rdKs_ok hf us ds' h2
    exact ⟨v :: vs, .cons a1 b1, fun H => .cons (a2 H) (b2 H)⟩
theorem rdK_ok {K : PySem.W.Frag} : ∀ (n : Nat) (u : Value) (d : PyData), rdK K n u = some d → ∃ v, RelV v u ∧ ∀ H, Dv K H v d
  | 0, _, _, h => by cases h
  | n + 1, u, d, h => by
    cases u with
    | none => cases h; exact ⟨.non, rfl, fun _ => .non⟩
    | bool b => cases h; exact ⟨.bl b, rfl, fun _ => .bl b⟩
    | int i t => cases h; exact ⟨.int i, ⟨t, rfl⟩, fun _ => .int i⟩
    | str x t => cases h; exact ⟨.str x, ⟨t, rfl⟩, fun _ => .str x⟩
    | ref a =>
      unfold rdK at h
      dsimp only at h
      split at h
      · rename_i c od its ep sl hk
        split at h
        · rename_i hc
          obtain ⟨ds, h1, rfl⟩ := Option.map_eq_some_iff.mp h
          obtain ⟨vs, g1, g2⟩ := rdKs_ok (fun u d => rdK_ok n u d) its.toList ds h1
          exact ⟨.ref a, rfl, fun H => .tup (.inr ⟨_, its, ep, hk, by rw [hc.1], rfl, hc.2, g1⟩) (g2 H)⟩
        · cases h
      · cases h
    | _ => cases h
theorem rd_at {K : PySem.W.Frag} {n : Nat} {a : Addr} {d : PyData} (h : rdK K n (.ref a) = some d) (H : Hp) : Dv K H (.ref a) d := by
  obtain ⟨v, r, q⟩ := rdK_ok n _ d h
  cases v with
  | ref b =>
    have e : Value.ref a = Value.ref b := r
    cases e
    exact q H
  | _ => first | exact absurd (show Value.ref a = _ from r) (by simp) | (obtain ⟨t, e⟩ := (show ∃ t, Value.ref a = _ from r); cases e)
def kdE (K : PySem.W.Frag) : List DictEntry → Option (List (Int × Str × PyData))
  | [] => some []
  | e :: es => match e.key with
    | .str s _ => (rdK K 6 e.val).bind fun d => (kdE K es).map ((e.hash, s, d) :: ·)
    | _ => none
def kdO (K : PySem.W.Frag) (a : Addr) : Option (List (Int × Str × PyData)) := match K.lookup a with
  | some ⟨.type c, none, .dict es _, sl⟩ => if c = "dict" ∧ sl.size = 0 then kdE K es.toList else none
  | _ => none
open He in
abbrev AlX : Type := AlD × List (Option PyData) × List (Bool × Option (List (Int × Str × PyData)))
section
open He
def obsX (fa : List Fa) (fn : List DefD) (ds : List (Str × PyData)) (kd : List (Str × List (Str × PyData))) (K : PySem.W.Frag) : AlX := (obsD fa fn K, ds.map (fun p => rdK K 6 (.ref (ga K p.1))), kd.map fun p => (ga K p.1 == sysModules, kdO K (ga K p.1)))
def valX (fn : List DefD) (ds : List (Str × PyData)) (kd : List (Str × List (Str × PyData))) (w : World) : AlX := (valD fn, ds.map (fun p => some p.2), kd.map fun p => (false, some (p.2.map fun q => (hashStr w q.1, q.1, q.2))))
def SaysX (fa : List Fa) (fn : List DefD) (ds : List (Str × PyData)) (kd : List (Str × List (Str × PyData))) (w : World) (K : PySem.W.Frag) : Prop := obsX fa fn ds kd K = valX fn ds kd w
variable {fa : List Fa} {fn : List DefD} {ds : List (Str × PyData)} {kd : List (Str × List (Str × PyData))} {w : World} {K : PySem.W.Frag}
theorem SaysX.d (c : SaysX fa fn ds kd w K) : SaysD fa fn K := congrArg (fun z : AlX => z.1) c
theorem SaysX.dat (c : SaysX fa fn ds kd w K) (i : Nat) {p : Str × PyData} (h : ds[i]? = some p := by rfl) (H : Hp) : Dv K H (.ref (ga K p.1)) p.2 := by
  have e : ds.map (fun p => rdK K 6 (.ref (ga K p.1))) = ds.map (fun p => some p.2) := congrArg (fun z : AlX => z.2.1) c
  have e2 : (ds.map (fun p => rdK K 6 (.ref (ga K p.1))))[i]? = (ds.map (fun p => some p.2))[i]? := by rw [e]
  rw [List.getElem?_map, List.getElem?_map, h] at e2
  exact rd_at (Option.some.inj e2) H
end
end Cm
namespace Cm
open PySem PySem.Spec PyProof.Rows L2
structure FnG (P : Program) (w : World) (K : PySem.W.Frag) (mg : Str → Option Value) (base : Heap) (k : Nat) (f : Addr) (fd : FuncData) (ps : List Str) (sp : Sp) : Prop where
  count : ∀ xs H Q E, sp xs H Q E → xs.length = ps.length
  goes : ∀ (A : Around) (fs : List Env) (s : Shared) (H : Hp) (args : Args) (ys : List Value) (xs : List V) (Q : VK) (E : XK), A.guards = some [] → Room k A → Env0 P w K mg base A fs s H →
    BindsTo s fd args (ps.zip ys) → Vals xs ys → sp xs H Q E → codeAny (model P w) A (.call (.ref f) args) (CR CX0 fs P w H s Q E) s
section
variable {P : Program} {w : World} {K : PySem.W.Frag} {mg : Str → Option Value} {base : Heap}
theorem FnG.of {k : Nat} {f : Addr} {fd : FuncData} {ps : List Str} {sp : Sp} (F : FnOk P w K mg base CX0 k f fd ps sp) : FnG P w K mg base k f fd ps sp :=
  ⟨F.len, fun A fs s H args ys xs Q E _ => F.run A fs s H args ys xs Q E⟩
theorem FnG.less {k : Nat} {f : Addr} {fd : FuncData} {ps : List Str} {sp sp' : Sp} (F : FnG P w K mg base k f fd ps sp) (i : ∀ xs H Q E, sp' xs H Q E → sp xs H Q E) : FnG P w K mg base k f fd ps sp' :=
  ⟨fun xs H Q E q => F.count xs H Q E (i xs H Q E q), fun A fs s H args ys xs Q E g r e b v q => F.goes A fs s H args ys xs Q E g r e b v (i xs H Q E q)⟩
end
inductive Sc where
  | lst (a : Addr)
  | tup (a : Addr)
  | txt (x : Str)
def Sc.at (K : PySem.W.Frag) (H : Hp) : Sc → List V → Prop
  | .lst a, xs => SqL K H a xs
  | .tup a, xs => SqT K H a xs
  | .txt x, xs => xs = x.cps.toList.map fun c => V.str ⟨#[c]⟩
def Sc.val : Sc → V
  | .lst a => .ref a
  | .tup a => .ref a
  | .txt x => .str x
def Sc.it (h : Heap) (j : Addr) (i : Nat) : Sc → Prop
  | .lst a => h.IsListIter j a i
  | .tup a => h.IsTupleIter j a i
  | .txt x => ∃ t, h.IsStrIter j (strIterType x) x t i
theorem Sc.obj {c : Sc} {h : Heap} {j : Addr} {i : Nat} (st : c.it h j i) : ∃ o, h.get? j = some o ∧ ∀ v, o.data ≠ .cell v := by
  cases c with
  | lst a =>
    obtain ⟨o, e, _, d⟩ := st
    exact ⟨o, e, fun v z => by rw [d] at z; cases z⟩
  | tup a =>
    obtain ⟨o, e, _, d⟩ := st
    exact ⟨o, e, fun v z => by rw [d] at z; cases z⟩
  | txt x =>
    obtain ⟨t, o, e, _, d⟩ := st
    exact ⟨o, e, fun v z => by rw [d] at z; cases z⟩
end Cm
namespace Cm
open PySem L2
section
variable {X : Cx} {K : PySem.W.Frag} {B : Fb} {env env' : Sl} {σ : L2.St} {Hk Hk' : Kn} {H H' : Hp} {M : List MC}
theorem HasSto.sto (h : HasSto env M) : sto env = M := by
  unfold Cm.sto HasSto at *
  rw [h]
theorem HasSto.set {i : Nat} {s : Slot} (h : HasSto env M) (hi : i ≠ env.length - 1) : HasSto (env.set i s) M := by
  unfold HasSto at *
  rw [List.length_set, List.getElem?_set_ne hi]
  exact h
theorem HasSto.ne {i : Nat} {s : Slot} (h : HasSto env M) (hs : env[i]? = some s) (hm : ∀ M, s ≠ .sto M) : i ≠ env.length - 1 := fun e => by
  unfold HasSto at h
  rw [e, h] at hs
  exact hm M (Option.some.inj hs).symm
def Cell.mc : Cell → MC
  | .lst ds => .lst (ds.map .dat)
  | .dct es => .dct (es.map fun p => (p.1, .dat p.2))
theorem pvAll_dat : ∀ {vs : List V} {ds : List PyData}, DvAll K Hk vs ds → PvAll K Hk vs (ds.map .dat)
  | _, _, .nil => .nil
  | _, _, .cons h1 h2 => .cons (.dat h1) (pvAll_dat h2)
theorem pvKv_dat : ∀ {vs : List (Key × V)} {ds : List (PyData × PyData)}, DvKv K Hk vs ds → PvKv K Hk vs (ds.map fun p => (p.1, .dat p.2))
  | _, _, .nil => .nil
  | _, _, .cons h1 h2 => .cons (.dat h1) (pvKv_dat h2)
theorem CellAt.mc {a : Addr} {c : Cell} (h : CellAt K Hk H a c) : CellM K Hk H a c.mc ∧ c.mc.live := by
  cases c with
  | lst ds =>
    obtain ⟨vs, h1, h2⟩ := h
    exact ⟨⟨vs, h1, pvAll_dat h2⟩, trivial⟩
  | dct ds =>
    obtain ⟨vs, h1, h2⟩ := h
    exact ⟨⟨vs, h1, pvKv_dat h2⟩, trivial⟩
end
def pvGet (es : List (PyData × PV)) (k : Key) : Option PV := (es.find? fun p => decide (keyOf p.1 = some k)).map (·.2)
section
variable {X : Cx} {K : PySem.W.Frag} {B : Fb} {env env' : Sl} {σ : L2.St} {Hk Hk' : Kn} {H H' : Hp}
theorem PvAll.len : ∀ {vs : List V} {ps : List PV}, PvAll K Hk vs ps → vs.length = ps.length
  | _, _, .nil => rfl
  | _, _, .cons _ h => by
    have := PvAll.len h
    simp [this]
theorem PvAll.set {v : V} {p : PV} (q : PvOk K Hk v p) : ∀ {vs : List V} {ps : List PV} (i : Nat), PvAll K Hk vs ps → PvAll K Hk (vs.set i v) (ps.set i p)
  | _, _, _, .nil => .nil
  | _, _, 0, .cons _ h2 => .cons q h2
  | _, _, i + 1, .cons h1 h2 => .cons h1 (PvAll.set q i h2)
theorem PvAll.take : ∀ {vs : List V} {ps : List PV} (n : Nat), PvAll K Hk vs ps → PvAll K Hk (vs.take n) (ps.take n)
  | _, _, 0, _ => .nil
  | _, _, _ + 1, .nil => .nil
  | _, _, n + 1, .cons h1 h2 => .cons h1 (PvAll.take n h2)
theorem PvAll.drop : ∀ {vs : List V} {ps : List PV} (n : Nat), PvAll K Hk vs ps → PvAll K Hk (vs.drop n) (ps.drop n)
  | _, _, 0, h => h
  | _, _, _ + 1, .nil => .nil
  | _, _, n + 1, .cons h1 h2 => PvAll.drop n h2
def PV.ix (M : List MC) (x : PV) (i : Int) : Option PV := match x with
  | .tup ps => atI ps i
  | .dat (.list ds) => (atI ds i).map .dat
  | .dat (.tuple ds) => (atI ds i).map .dat
  | .dat _ => none
  | .ref n => match M[n]? with
    | some (.lst ps) => atI ps i
    | some (.kn (.lst ps)) => atI ps i
    | _ => none
def PV.dx (M : List MC) (x : PV) (k : Key) : Option (Option PV) := match x with
  | .dat (.dict es) => some ((dGet es k).map .dat)
  | .ref n => match M[n]? with
    | some (.dct es) => some (pvGet es k)
    | some (.kn (.dct es)) => some (pvGet es k)
    | some (.lk es) => some ((dGet es k).map .dat)
    | _ => none
  | _ => none
end
section
variable {X : Cx} {K : PySem.W.Frag} {B : Fb} {env env' : Sl} {σ : L2.St} {Hk Hk' : Kn} {H H' : Hp}
open Classical in
noncomputable def tpK (Hk H H3 : Hp) : Hp := fun a => if Hk a ≠ none then Hk a else if H a = none then (match H3 a with
  | some (.tup xs) => some (.tup xs)
  | some (.frz u (.tup xs)) => some (.frz u (.tup xs))
  | _ => none) else none
mutual
theorem tpK_dv {Hk3 H3 : Hp} (e : Same Hk3 H3) (s : Same Hk Hk3) (hn : ∀ a, Hk3 a ≠ none → Hk a = none → H a = none ∨ ∃ o, H3 a = some o ∧ (∀ xs, o ≠ .tup xs) ∧ ∀ u xs, o ≠ .frz u (.tup xs)) : ∀ {v : V} {d : PyData}, Dv K Hk3 v d → noL d = true → Dv K (tpK Hk H H3) v d
  | _, _, .non, _ => .non
  | _, _, .bl b, _ => .bl b
  | _, _, .int i, _ => .int i
  | _, _, .str x, _ => .str x
  | _, _, .lst _ _, h => by simp [noL] at h
  | _, _, .dct _ _, h => by simp [noL] at h
  | _, _, .tup (a := a) h q, hl => by
    refine .tup ?_ (tpK_dvs e s hn q (by simpa [noL] using hl))
    rcases h with (h | ⟨u, h⟩) | h
    · refine .inl (.inl ?_)
      unfold tpK
      by_cases hk : Hk a = none
      · rcases hn _ (ne_none h) hk with z | ⟨o, z1, z2, _⟩
        · rw [if_neg (fun y => y hk), if_pos z, e _ _ h]
        · rw [e _ _ h] at z1
          exact absurd (Option.some.inj z1).symm (z2 _)
      · rw [if_pos hk]
        obtain ⟨o, ho⟩ := Option.ne_none_iff_exists'.mp hk
        rw [ho, ← s _ _ ho, h]
    · refine .inl (.inr ⟨u, ?_⟩)
      unfold tpK
      by_cases hk : Hk a = none
      · rcases hn _ (ne_none h) hk with z | ⟨o, z1, _, z2⟩
        · rw [if_neg (fun y => y hk), if_pos z, e _ _ h]
        · rw [e _ _ h] at z1
          exact absurd (Option.some.inj z1).symm (z2 _ _)
      · rw [if_pos hk]
        obtain ⟨o, ho⟩ := Option.ne_none_iff_exists'.mp hk
        rw [ho, ← s _ _ ho, h]
    · exact .inr h
theorem tpK_dvs {Hk3 H3 : Hp} (e : Same Hk3 H3) (s : Same Hk Hk3) (hn : ∀ a, Hk3 a ≠ none → Hk a = none → H a = none ∨ ∃ o, H3 a = some o ∧ (∀ xs, o ≠ .tup xs) ∧ ∀ u xs, o ≠ .frz u (.tup xs)) : ∀ {vs : List V} {ds : List PyData}, DvAll K Hk3 vs ds → noLs ds = true → DvAll K (tpK Hk H H3) vs ds
  | _, _, .nil, _ => .nil
  | _, _, .cons h1 h2, hl => by
    simp only [noLs, Bool.and_eq_true] at hl
    exact .cons (tpK_dv e s hn h1 hl.1) (tpK_dvs e s hn h2 hl.2)
end
end
abbrev MGP := PV → Sl → Option Sl
abbrev Gd := Sl → Prop
abbrev MIP := Sl → Option ((List PV × Gd) × Sl)
end Cm
namespace Cm
open PySem PySem.Spec PyProof.Rows L2
abbrev FMM := List MC → Sl → Option (Res × Sl × List MC)
structure StoIn (K : PySem.W.Frag) (Hk : Kn) (H : Hp) (M : List MC) : Prop where
  cel : ∀ (n : Nat) c, M[n]? = some c → ∃ a, Hk.P n = some a ∧ CellM K Hk H a c ∧ (c.live → Hk a = none)
  inj : ∀ (n m : Nat) a, Hk.P n = some a → Hk.P m = some a → n = m
  top : ∀ (n : Nat), M.length ≤ n → Hk.P n = none
  pin : ∀ (n : Nat) a, Hk.P n = some a → H a ≠ none
def ArgM (K : PySem.W.Frag) (Hk : Kn) (H : Hp) (s : Slot) (v : V) : Prop := match s with
  | .val d => Dv K Hk v d
  | .pv p => PvOk K Hk v p
  | .io _ c => ∃ a, v = .ref a ∧ Hk a = none ∧ CellAt K Hk H a c ∧ ∀ (n : Nat), Hk.P n ≠ some a
  | .scr ns => ∃ a, v = .ref a ∧ SqL K Hk a (ns.map V.int)
  | .no => True
  | _ => False
structure ArgsM (K : PySem.W.Frag) (Hk : Kn) (H : Hp) (ins : Sl) (vs : List V) : Prop where
  len : ins.length = vs.length
  arg : ∀ (i : Nat) s v, ins[i]? = some s → vs[i]? = some v → ArgM K Hk H s v
  ix : ∀ (i k : Nat) c, ins[i]? = some (.io k c) → k = i
  sep : ∀ (i j k l : Nat) c c' a, ins[i]? = some (.io k c) → ins[j]? = some (.io l c') → vs[i]? = some (V.ref a) → vs[j]? = some (V.ref a) → i = j
structure PostM (K : PySem.W.Frag) (Hk : Kn) (H : Hp) (ins : Sl) (vs : List V) (outs : Sl) (M' : List MC) (Hk' : Kn) (H' : Hp) : Prop where
  kn : KSame Hk Hk'
  ex : Same Hk' H'
  fr : ∀ a, Hk' a ≠ none → Hk a = none → H a = none
  kp : ∀ a o, H a = some o → (∀ k, ioA ins vs k ≠ some a) → (∀ n, Hk.P n = some a → Hk a ≠ none) → H' a = some o
  io : ∀ k a, ioA ins vs k = some a → ∃ c', outs[k]? = some (.io k c') ∧ Hk' a = none ∧ CellAt K Hk' H' a c' ∧ ∀ (n : Nat), Hk'.P n ≠ some a
  sto : StoIn K Hk' H' M'
  new : ∀ n a, Hk'.P n = some a → Hk.P n = none → Hk' a = none → H a = none
  old : ∀ n a, Hk.P n = some a → Hk a = none → Hk' a = none
end Cm
namespace Cm
open PySem PySem.Spec PyProof.Rows L2
open Sem (wp)
section
variable {prog : Program} {w : World} {A : Around} {E : Value → Shared → Prop}
def LsF (h : Heap) (a : Addr) (its : List Value) : Prop := ∃ n, h.get? a = some { cls := .type "list", data := .seq its.toArray n }
theorem LsF.keeps {h h' : Heap} {a : Addr} {its : List Value} (x : LsF h a its) (k : ∀ o, h.get? a = some o → h'.get? a = some o) : LsF h' a its := let ⟨n, e⟩ := x; ⟨n, k _ e⟩
end
inductive Al2 {α β : Type} (R : α → β → Prop) : List α → List β → Prop
  | nil : Al2 R [] []
  | cons {x : α} {y : β} {xs : List α} {ys : List β} : R x y → Al2 R xs ys → Al2 R (x :: xs) (y :: ys)
end Cm
namespace Cm
open PySem L2
structure Dec {α : Type} (e : α → PyData) where
  f : PyData → Option α
  snd : ∀ d x, f d = some x → e x = d
  cmp : ∀ x, f (e x) = some x
end Cm
namespace Cm
open PySem PySem.Spec PyProof.Rows L2
section
variable {P : Program} {w : World} {A : Around} {E : Value → Shared → Prop} {s : Shared} {a : Addr} {es : Array (Int × Value)} {t : SetTable} {ps : List (Str × Tok)}
abbrev cellT (w : World) (p : Str × Tok) : Int × Value := (hashStr w p.1, .str p.1 p.2)
structure TabT (w : World) (es : Array (Int × Value)) (t : SetTable) (ps : List (Str × Tok)) : Prop where
  cells : es.toList.Perm (ps.map (cellT w))
  fits : t.fits es.size = true
  ris : Ris t.place.toList
  led : w.params.followText "set-order" = true ∨ t.led = true
theorem TabT.size (R : TabT w es t ps) : es.size = ps.length := by
  have := R.cells.length_eq
  rwa [Array.length_toList, List.length_map] at this
theorem TabT.lay (R : TabT w es t ps) (p : Str × Tok) : TabT w (layNew t es (hashStr w p.1) (.str p.1 p.2)).1 (layNew t es (hashStr w p.1) (.str p.1 p.2)).2.1 (ps ++ [p]) where
  cells := by
    refine (layNew_perm t es _ _).trans ?_
    rw [Array.toList_push, List.map_append]
    exact R.cells.append_right _
  fits := layNew_fits ..
  ris := layNew_ris _ _ _ _ R.ris
  led := R.led.imp id fun z => (layNew_led ..).trans z
def SetT (w : World) (h : Heap) (a : Addr) (ps : List (Str × Tok)) : Prop := (ps.map Prod.fst).Nodup ∧ ps.length < scanBound ∧ ∃ o es ep t, h.get? a = some o ∧ o.ExactSet ∧ o.data = .set es ep t ∧ TabT w es t ps
theorem SetT.at {h h' : Heap} (R : SetT w h a ps) (k : ∀ o, h.get? a = some o → h'.get? a = some o) : SetT w h' a ps := by
  obtain ⟨nd, hb, o, es, ep, t, ho, r⟩ := R
  exact ⟨nd, hb, o, es, ep, t, k o ho, r⟩
end
end Cm
namespace Cm
open PySem PySem.Calls PyProof.Rows L2
open PySem.W (EachIs SortsAt KeyedOut KeepsBut AllAlike Sortable alike sortVals keyH_end keyedOut_each bound_map copyHeap copyHeap_at copyHeap_old sorted_of_sort)
section
variable {P : Program} {w : World} {A : Around} {E : Value → Shared → Prop} {s : Shared} {a kS N : Addr} {e1 : Nat} {R : PySem.Fin → Shared → Prop} {v : Value} {d : PyData}
def Low (N : Addr) (h : Heap) (v : Value) (d : PyData) : Prop := ∃ as, Reads h v d as ∧ ∀ x ∈ as, x < N
theorem Low.keeps {h h' : Heap} (l : Low N h v d) (k : ∀ b o, h.get? b = some o → h'.get? b = some o) : Low N h' v d := l.imp fun as q => ⟨Reads.keeps k q.1, q.2⟩
theorem Low.more {g : Heap} {keys : Array Value} {e : Nat} {x : Value} (lies : g.get? kS = some (seqObj "list" keys e)) (hN : N ≤ kS) (al : alike d d = true) (l : Low N g v d) : Low N (g.update kS (Obj.mapSeq (·.push x))) v d := by
  obtain ⟨as, r, q⟩ := l
  have same := Heap.SameBut.update g kS (Obj.mapSeq (·.push x))
  refine ⟨as, PySem.W.Reads.keepBut (a := kS) (fun b o hb e => (same.2 b hb).trans e) (fun o e => ?_) d v as al r (fun h => ?_), q⟩
  · rw [lies] at e
    cases e
    rfl
  · exact absurd (Nat.lt_of_lt_of_le (q kS h) hN) (Nat.lt_irrefl _)
def KeyLow (N : Addr) (d : PyData) (s₁ : Shared) (v : Value) (s₂ : Shared) : Prop := ∃ h' tk, s₂ = { s₁ with heap := h', toks := tk } ∧ (∀ b o, s₁.heap.get? b = some o → h'.get? b = some o) ∧ Low N h' v d
def Gath (N a kS : Addr) (e1 : Nat) (h₁ : Heap) (kz : List PyData) (s : Shared) (j : Nat) (s' : Shared) : Prop :=
  ∃ h' tk kA e, s' = { s with heap := h', toks := tk } ∧ KeepsBut a h₁ h' ∧ h'.get? kS = some (seqObj "list" kA e) ∧ h'.get? a = some (seqObj "list" #[] e1) ∧ EachIs (fun v k => Low N h' v k) kA.toList (kz.take j)
theorem each_push {α β : Type} {Q : α → β → Prop} {x : α} {y : β} : ∀ {xs : List α} {ys : List β}, EachIs Q xs ys → Q x y → EachIs Q (xs ++ [x]) (ys ++ [y])
  | _, _, .nil, h => .cons h .nil
  | _, _, .cons h1 h2, h => .cons h1 (each_push h2 h)
theorem each_with {α β : Type} {Q Q' : α → β → Prop} : ∀ {xs : List α} {ys : List β}, (∀ x, ∀ y ∈ ys, Q x y → Q' x y) → EachIs Q xs ys → EachIs Q' xs ys
  | _, _, _, .nil => .nil
  | _, _, h, .cons h1 h2 => .cons (h _ _ List.mem_cons_self h1) (each_with (fun x y hy => h x y (List.mem_cons_of_mem _ hy)) h2)
theorem Gath.turn {h₁ : Heap} {kz : List PyData} {vs : List Value} {f : Value} {j : Nat} {x : Value} {s' : Shared} {Q : ForInStep PUnit → Shared → Prop} {t : Value → Sem (ForInStep PUnit)} (hN : N ≤ kS) (hka : kS ≠ a) (hkS : h₁.get? kS = none) (hal : AllAlike kz) (hZ : kz.length ≤ sizeLine)
    (hj : j < kz.length) (I : Gath N a kS e1 h₁ kz s j s')
    (turn : ∀ (k : PyData), kz[j]? = some k → ∀ (h : Heap) (tk : Nat), KeepsBut a h₁ h → wpAny (model P w) A (call f [x]) (KeyLow N k { s with heap := h, toks := tk }) (fun _ _ => False) { s with heap := h, toks := tk })
    (q : ∀ s'', Gath N a kS e1 h₁ kz s (j + 1) s'' → Q (.yield ⟨⟩) s'') :
    wpAny (model P w) A ((call f [x]).attempt >>= fun r => (match r with | .ok k => Builtin.List.listUpdate (.ref kS) (·.push k) >>= fun _ => pure (ForInStep.yield PUnit.unit) | .error e => t e)) Q E s' := by
  obtain ⟨h', tk, kA, e, rfl, kp, at1, at2, got⟩ := I
  have hjk : kz[j]? = some kz[j] := List.getElem?_eq_getElem hj
  have many : kA.size = j := by
    have := got.length
    rw [Array.length_toList, List.length_take] at this
    omega
  refine wpAny_bind (wpAny_attempt (wpAny_mono (turn _ hjk h' tk kp) (fun v s2 ⟨g, tk2, e2, keep, low⟩ => ?_) fun _ _ no => no.elim))
  subst e2
  have at1g := keep _ _ at1
  have self : ∀ k ∈ kz, alike k k = true := fun k hk => hal k hk k hk
  have same := Heap.SameBut.update g kS (Obj.mapSeq (·.push v))
  have pushed := get?_update_seq at1g (·.push v)
  show wpAny _ _ (Builtin.List.listUpdate (.ref kS) (·.push v) >>= fun _ => pure (ForInStep.yield PUnit.unit)) _ _ _
  refine wpAny_bind (listUpdate_at at1g rfl (wpAny_pure (q _ ⟨_, tk2, _, _, rfl, (kp.trans_all keep).same same (.inr hkS), pushed, (same.2 a hka.symm).trans (keep _ _ at2), ?_⟩)) (by rw [many]; omega) (by rw [Array.size_push, many]; omega))
  rw [List.take_add_one, hjk, Array.toList_push]
  refine each_push (each_with (fun u k hk low => (low.keeps keep).more at1g hN (self k (List.mem_of_mem_take hk))) got) (low.more at1g hN (self _ (List.getElem_mem hj)))
end
end Cm
namespace Cm
open PySem PySem.Calls PyProof.Rows L2
mutual
theorem reads_in {h : Heap} : ∀ (d : PyData) {v : Value} {as : List Addr}, Reads h v d as → ∀ x ∈ as, x < h.objs.size
  | .none, _, _, r, x, hx => by cases r; cases hx
  | .bool _, _, _, r, x, hx => by cases r; cases hx
  | .int _, _, _, r, x, hx => by cases r; cases hx
  | .str _, _, _, r, x, hx => by cases r; cases hx
  | .list ds, _, _, r, x, hx => by
    cases r with
    | list h1 h2 h3 h4 =>
      rcases List.mem_cons.mp hx with rfl | hx
      · exact Heap.lt_size h1
      · exact readsAll_in ds h4 x hx
  | .tuple ds, _, _, r, x, hx => by
    cases r with
    | tuple h1 h2 h3 h4 => exact readsAll_in ds h4 x hx
  | .dict es, _, _, r, x, hx => by
    cases r with
    | @dict a o es' n kvs as bs h1 h2 h3 h4 h5 =>
      have k1 := readsAll_inK es h4
      have k2 := readsAll_inV es h5
      rcases List.mem_append.mp hx with hx | hx
      · rcases List.mem_cons.mp hx with rfl | hx
        · exact Heap.lt_size h1
        · exact k1 x hx
      · exact k2 x hx
theorem readsAll_in {h : Heap} : ∀ (ds : List PyData) {vs : List Value} {as : List Addr}, ReadsAll h vs ds as → ∀ x ∈ as, x < h.objs.size
  | [], _, _, r, x, hx => by cases r; cases hx
  | d :: ds, _, _, r, x, hx => by
    cases r with
    | cons r1 r2 =>
      rcases List.mem_append.mp hx with hx | hx
      · exact reads_in d r1 x hx
      · exact readsAll_in ds r2 x hx
theorem readsAll_inK {h : Heap} : ∀ (ds : List (PyData × PyData)) {vs : List Value} {as : List Addr}, ReadsAll h vs (ds.map (·.1)) as → ∀ x ∈ as, x < h.objs.size
  | [], _, _, r, x, hx => by cases r; cases hx
  | (k, d) :: ds, _, _, r, x, hx => by
    cases r with
    | cons r1 r2 =>
      rcases List.mem_append.mp hx with hx | hx
      · exact reads_in k r1 x hx
      · exact readsAll_inK ds r2 x hx
theorem readsAll_inV {h : Heap} : ∀ (ds : List (PyData × PyData)) {vs : List Value} {as : List Addr}, ReadsAll h vs (ds.map (·.2)) as → ∀ x ∈ as, x < h.objs.size
  | [], _, _, r, x, hx => by cases r; cases hx
  | (k, d) :: ds, _, _, r, x, hx => by
    cases r with
    | cons r1 r2 =>
      rcases List.mem_append.mp hx with hx | hx
      · exact reads_in d r1 x hx
      · exact readsAll_inV ds r2 x hx
end
end Cm
namespace Cm
open PySem L2
mutual
def noDc : PyData → Bool
  | .dict _ => false
  | .list ds => noDcs ds
  | .tuple ds => noDcs ds
  | _ => true
def noDcs : List PyData → Bool
  | [] => true
  | d :: ds => noDc d && noDcs ds
end
def Kn.but (Hk3 Hk : Kn) (a : Addr) : Kn := ⟨fun b => if b = a then none else Hk3.k b, Hk.P⟩
theorem rd_but {Hk3 Hk : Kn} {a b : Addr} {u : HO} {kvs : List (Key × V)} (ha : Rd Hk3.k a (.dK kvs)) (h : Rd Hk3.k b u) (hu : (∃ xs, u = .lst xs) ∨ ∃ xs, u = .tup xs) : Rd (Hk3.but Hk a).k b u := by
  have ne : b ≠ a := by
    rintro rfl
    rcases hu with ⟨xs, rfl⟩ | ⟨xs, rfl⟩ <;> rcases ha with ha | ⟨o, ha⟩ <;> rcases h with h | ⟨o', h⟩ <;> rw [ha] at h <;> cases h
  have e : (Hk3.but Hk a).k b = Hk3.k b := if_neg ne
  unfold Rd
  rw [e]
  exact h
section
variable {X : Cx} {K : PySem.W.Frag} {Hk3 Hk : Kn} {a : Addr} {kvs : List (Key × V)}
mutual
theorem dv_but (ha : Rd Hk3.k a (.dK kvs)) : ∀ {v : V} {d : PyData}, noDc d = true → Dv K Hk3 v d → Dv K (Hk3.but Hk a) v d
  | _, _, _, .non => .non
  | _, _, _, .bl b => .bl b
  | _, _, _, .int i => .int i
  | _, _, _, .str x => .str x
  | _, .list ds, h, .lst (a := l) (xs := xs) q1 q2 => by
    have h : noDcs ds = true := by simpa [noDc] using h
    have q3 : Rd (Hk3.but Hk a).k l (.lst xs) := rd_but ha (.inl q1) (.inl ⟨_, rfl⟩)
    have q4 : (Hk3.but Hk a).k l = some (.lst xs) := by
      rcases q3 with q3 | ⟨o, q3⟩
      · exact q3
      · exfalso
        by_cases e : l = a
        · have : (Hk3.but Hk a).k l = none := if_pos e
          rw [this] at q3
          cases q3
        · have : (Hk3.but Hk a).k l = Hk3.k l := if_neg e
          rw [this, q1] at q3
          cases q3
    exact .lst q4 (dvAll_but ha h q2)
  | _, .tuple ds, h, .tup q1 q2 => by
    have h : noDcs ds = true := by simpa [noDc] using h
    refine .tup ?_ (dvAll_but ha h q2)
    rcases q1 with q1 | q1
    · exact .inl (rd_but ha q1 (.inr ⟨_, rfl⟩))
    · exact .inr q1
  | _, _, h, .dct _ _ => by simp [noDc] at h
theorem dvAll_but (ha : Rd Hk3.k a (.dK kvs)) : ∀ {vs : List V} {ds : List PyData}, noDcs ds = true → DvAll K Hk3 vs ds → DvAll K (Hk3.but Hk a) vs ds
  | _, _, _, .nil => .nil
  | _, d :: ds, h, .cons h1 h2 => by
    have h : noDc d = true ∧ noDcs ds = true := by simpa [noDcs] using h
    exact .cons (dv_but ha h.1 h1) (dvAll_but ha h.2 h2)
end
end
def PV.fld (C : Str) (M : List MC) (x : PV) (f : Str) : Option PV := match x with
  | .ref n => match M[n]? with
    | some (.ins D fs) => if D = C then fs.lookup f else none
    | some (.kn (.ins D fs)) => if D = C then fs.lookup f else none
    | _ => none
  | _ => none
def PV.deepK (M : List MC) : Nat → PV → Option PyData
  | _, .dat d => some d
  | 0, _ => none
  | f + 1, .tup ps => (rdAllP (PV.deepK M f) ps).map .tuple
  | f + 1, .ref n => match M[n]? with
    | some (.kn (.lst ps)) => (rdAllP (PV.deepK M f) ps).map .list
    | some (.kn (.dct es)) => (rdAllK (PV.deepK M f) es).map .dict
    | some (.lk es) => some (.dict es)
    | _ => none
section
variable {X : Cx} {K : PySem.W.Frag} {B : Fb} {env env' : Sl} {σ : L2.St} {Hk Hk' : Kn} {H H' : Hp}
theorem Rel.deepK (R : Rel K B env σ Hk H) : ∀ (f : Nat) {p : PV} {v : V} {d : PyData}, PvOk K Hk v p → p.deepK (sto env) f = some d → Dv K Hk v d
  | f, .dat d', v, d, h, e => by
    have e : some d' = some d := by cases f <;> exact e
    cases e
    cases h with
    | dat q => exact q
  | 0, .tup ps, v, d, h, e => by cases e
  | 0, .ref n, v, d, h, e => by cases e
  | f + 1, .tup ps, v, d, h, e => by
    obtain ⟨ds, h3, rfl⟩ := Option.map_eq_some_iff.mp e
    cases h with
    | @tup a vs _ q1 q2 => exact .tup q1.sq (deepAll (fun w g => Rel.deepK R f w g) q2 h3)
  | f + 1, .ref n, v, d, h, e => by
    cases h with
    | @ref a _ q =>
      unfold PV.deepK at e
      cases hc : (sto env)[n]? with
      | none => simp only [hc] at e; cases e
      | some c =>
        obtain ⟨hS, b, g1, g2, g3⟩ := R.stoAt hc
        rw [q] at g1
        cases g1
        simp only [hc] at e
        clear hc
        cases c with
        | lk es =>
          cases e
          obtain ⟨od, kvs, h1, h2⟩ := g2
          exact .dct (.inr ⟨od, h1⟩) h2
        | kn c' =>
          cases c' with
          | lst ps =>
            obtain ⟨ds, h3, rfl⟩ := Option.map_eq_some_iff.mp e
            obtain ⟨vs, h4, q2⟩ := g2
            exact .lst h4 (deepAll (fun w g => Rel.deepK R f w g) q2 h3)
          | dct ps =>
            obtain ⟨ds, h3, rfl⟩ := Option.map_eq_some_iff.mp e
            obtain ⟨vs, h4, q2⟩ := g2
            exact .dct (.inl h4) (deepKv (fun w g => Rel.deepK R f w g) q2 h3)
          | _ => cases e
        | _ => cases e
structure Lkd (Hk : Kn) (H H' : Hp) (L : Addr → Prop) : Prop where
  out : ∀ x, ¬ L x → H' x = H x
  at_ : ∀ x, L x → Hk x = none ∧ (∃ n, Hk.P n = some x) ∧ ∃ od kvs, H x = some (.dK kvs) ∧ H' x = some (.frz od (.dK kvs))
theorem Lkd.same {L : Addr → Prop} (l : Lkd Hk H H' L) (e : Same Hk H) : Same Hk H' := fun a o h => by
  by_cases z : L a
  · rw [(l.at_ a z).1] at h; cases h
  · rw [l.out a z]; exact e _ _ h
theorem Lkd.there {L : Addr → Prop} (l : Lkd Hk H H' L) {a : Addr} (h : H a ≠ none) : H' a ≠ none := by
  by_cases z : L a
  · obtain ⟨_, _, od, kvs, _, w⟩ := l.at_ a z
    exact ne_none w
  · rw [l.out a z]; exact h
end
def isDP (M : List MC) : PV → Bool
  | .dat (.dict _) => true
  | .ref n => match M[n]? with
    | some (.dct _) => true
    | some (.kn (.dct _)) => true
    | some (.lk _) => true
    | _ => false
  | _ => false
structure Lent (M M' : List MC) : Prop where
  fld : ∀ C (x : PV) f, PV.fld C M' x f = PV.fld C M x f
  ix : ∀ (x : PV) i, PV.ix M' x i = PV.ix M x i
  dx : ∀ (x : PV) k, PV.dx M' x k = PV.dx M x k
  dp : ∀ (x : PV), isDP M' x = isDP M x
  deep : ∀ f (x : PV), PV.deepK M' f x = PV.deep M f x
inductive PrsAllP (K : PySem.W.Frag) (Hk : Kn) : List (V × V) → List (PyData × PV) → Prop
  | nil : PrsAllP K Hk [] []
  | cons {v w : V} {k : PyData} {d : PV} {ps : List (V × V)} {es : List (PyData × PV)} : Dv K Hk v k → PvOk K Hk w d → PrsAllP K Hk ps es → PrsAllP K Hk ((v, w) :: ps) ((k, d) :: es)
end Cm
namespace Cm
open PySem PySem.Calls PyProof.Rows L2
open PySem.W (EachIs SortsAt alike sortVals copyHeap sortingHeap keyToks)
def headI : PyData → Int
  | .tuple (.int i :: _) => i
  | _ => 0
structure Heads (ds : List PyData) : Prop where
  hd : ∀ d ∈ ds, ∃ i r, d = .tuple (.int i :: r)
  un : (ds.map headI).Nodup
  self : ∀ d ∈ ds, alike d d = true
  lay : ∀ d ∈ ds, d.canLay0 = true ∧ d.depth ≤ 60
  len : ds.length ≤ 100000
theorem Heads.inj {ds : List PyData} (h : Heads ds) {d d' : PyData} (hd : d ∈ ds) (hd' : d' ∈ ds) (e : headI d = headI d') : d = d' := by
  obtain ⟨i, hi, rfl⟩ := List.getElem_of_mem hd
  obtain ⟨j, hj, rfl⟩ := List.getElem_of_mem hd'
  have hn := h.un
  rw [List.Nodup, List.pairwise_iff_getElem] at hn
  by_cases hij : i = j
  · subst hij; rfl
  · exfalso
    rcases Nat.lt_or_gt_of_ne hij with q | q
    · exact hn i j (by simpa using hi) (by simpa using hj) q (by simpa using e)
    · exact hn j i (by simpa using hj) (by simpa using hi) q (by simpa using e.symm)
end Cm
namespace Cm
open PySem PySem.Spec PyProof.Rows L2
section
open He
structure TabH (K : PySem.W.Frag) (h : Heap) (x : Str) (c P : Addr) : Prop where
  fn : ∃ (oc : Value) (od : Option Addr) (fd : FuncData) (osl : Array (Option Value)), K.lookup (ga K x) = some ⟨oc, od, .func fd, osl⟩ ∧ fd.code = .ref c
  at_ : TabAt K x P
  hd : PySem.W.CodeHd h c P
  emp : h.get? P = some { cls := .none, data := .fields #[] }
  nk : K.lookup P = none
end
end Cm
namespace Cm
open PySem PySem.Spec PyProof.Rows L2
open Sem (wp)
structure MadeZ (xs ys : Array Value) (lo : Addr) (h : Heap) (as : List Addr) : Prop where
  rise : as.Pairwise (· < ·)
  above : ∀ a ∈ as, lo < a
  pairs : ∀ (j : Nat) (a : Addr), as[j]? = some a → ∃ x y, xs[j]? = some x ∧ ys[j]? = some y ∧ IsPair h a x y
theorem MadeZ.there {xs ys : Array Value} {lo : Addr} {h : Heap} {as : List Addr} (g : MadeZ xs ys lo h as) {a : Addr} (ha : a ∈ as) : a < h.objs.size := by
  obtain ⟨j, hj⟩ := List.mem_iff_getElem?.mp ha
  obtain ⟨_, _, _, _, e⟩ := g.pairs j a hj
  exact Heap.lt_size e
def ZSt (xs ys : Array Value) (z TI TO i1 i2 l1 l2 S : Addr) (i : Nat) (h : Heap) : Prop :=
  IsPair h TI (.ref i1) (.ref i2) ∧ h.IsListIter i1 l1 i ∧ h.IsListIter i2 l2 i ∧ h.IsList l1 xs ∧ h.IsList l2 ys ∧
  ((IsZip h z TI TO .none ∧ ∃ a b, IsPair h TO a b) ∨ ∃ T f oT, IsZipHeld h z TI TO T f ∧ h.get? T = some oT ∧ S < T)
structure ZLow (z TI TO i1 i2 l1 l2 S : Addr) : Prop where
  z : z < S
  TI : TI < S
  TO : TO < S
  i1 : i1 < S
  i2 : i2 < S
  l1 : l1 < S
  l2 : l2 < S
section
variable {prog : Program} {w : World} {A : Around} {E : Value → Shared → Prop} {s : Shared} {z TI TO i1 i2 l1 l2 S : Addr} {xs ys : Array Value}
theorem ZSt.keep {i : Nat} {h h' : Heap} (L : ZLow z TI TO i1 i2 l1 l2 S) (st : ZSt xs ys z TI TO i1 i2 l1 l2 S i h) (k : ∀ b o, b ≠ S → h.get? b = some o → h'.get? b = some o) : ZSt xs ys z TI TO i1 i2 l1 l2 S i h' := by
  obtain ⟨a1, a2, a3, a4, a5, a6⟩ := st
  refine ⟨k _ _ (Nat.ne_of_lt L.TI) a1, a2.at fun o e => k _ o (Nat.ne_of_lt L.i1) e, a3.at fun o e => k _ o (Nat.ne_of_lt L.i2) e, a4.at fun o e => k _ o (Nat.ne_of_lt L.l1) e, a5.at fun o e => k _ o (Nat.ne_of_lt L.l2) e, ?_⟩
  rcases a6 with ⟨b1, a, b, b2⟩ | ⟨T, f, oT, b1, b2, b3⟩
  · exact .inl ⟨k _ _ (Nat.ne_of_lt L.z) b1, a, b, k _ _ (Nat.ne_of_lt L.TO) b2⟩
  · exact .inr ⟨T, f, oT, k _ _ (Nat.ne_of_lt L.z) b1, k _ _ (Nat.ne_of_gt b3) b2, b3⟩
end
end Cm
namespace Cm
open PySem PySem.Spec PyProof.Rows L2
section
variable {P : Program} {w : World} {K : PySem.W.Frag} {mg : Str → Option Value} {base : Heap}
theorem FnG.imp {k : Nat} {f : Addr} {fd : FuncData} {ps : List Str} {sp sp' : Sp} (F : FnG P w K mg base k f fd ps sp) (i : ∀ xs H Q E, sp' xs H Q E → sp xs H Q E) : FnG P w K mg base k f fd ps sp' := F.less i
end
structure EApart (e z TI TO i1 i2 : Addr) : Prop where
  ez : e ≠ z
  eTI : e ≠ TI
  eTO : e ≠ TO
  e1 : e ≠ i1
  e2 : e ≠ i2
end Cm
namespace Cm
open PySem L2
section
open He
def refsAt (g : Addr → Option Obj) (a : Addr) : List Addr := match g a with
  | some o => refsD o
  | none => []
def asF (g : Addr → Option Obj) : Nat → List Addr → List Addr
  | 0, l => l
  | n + 1, l => l ++ asF g n (l.flatMap (refsAt g))
def obsYG (n : Nat) (fa : List Fa) (fn : List DefD) (ds : List (Str × PyData)) (kd : List (Str × List (Str × PyData))) (g : Addr → Option Obj) : AlX := obsX fa fn ds kd (frG g (asF g n [mainGlobals]))
def hookY (n : Nat) (fa : List Fa) (fn : List DefD) (ds : List (Str × PyData)) (kd : List (Str × List (Str × PyData))) : PySem.W.Hook where
  α := AlX
  obs := fun s => obsYG n fa fn ds kd s.heap.get?
  val := fun w => valX fn ds kd w
  says := fun w h => ∃ K : PySem.W.Frag, K.In h ∧ SaysX fa fn ds kd w K
  of := fun _ _ e => ⟨_, frG_in, e⟩
  keeps := fun _ _ _ ⟨K, hK, c⟩ k => ⟨K, PySem.W.Frag.In.keeps hK k, c⟩
theorem obsYG_eq {n : Nat} {fa : List Fa} {fn : List DefD} {ds : List (Str × PyData)} {kd : List (Str × List (Str × PyData))} {g : Addr → Option Obj} {s : Shared} (h : ∀ a, g a = s.heap.get? a) : obsYG n fa fn ds kd g = (hookY n fa fn ds kd).obs s := by
  have e : g = s.heap.get? := funext h
  rw [e] <;> rfl
end
end Cm
namespace Cm
open PySem PySem.Spec PyProof.Rows L2
section
variable {X : Cx} {K : PySem.W.Frag} {B : Fb} {env : Sl} {σ : L2.St} {Hk H : Hp}
def lr2ok (i j : Int) : Prop := (-100000 ≤ i ∧ i ≤ 100000) ∧ (-100000 ≤ j ∧ j ≤ 100000)
instance (i j : Int) : Decidable (lr2ok i j) := by unfold lr2ok; infer_instance
end
end Cm
namespace Cm
open PySem PySem.Calls PyProof.Rows L2
open PySem.W (EachIs SortsAt alike sortVals copyHeap sortingHeap keyToks)
def headP : PyData → Int × Int
  | .tuple (.int i :: .int j :: _) => (i, j)
  | _ => (0, 0)
structure Heads2 (ds : List PyData) : Prop where
  hd : ∀ d ∈ ds, ∃ i j r, d = .tuple (.int i :: .int j :: r)
  un : (ds.map headP).Nodup
  self : ∀ d ∈ ds, alike d d = true
  lay : ∀ d ∈ ds, d.canLay0 = true ∧ d.depth ≤ 60
  len : ds.length ≤ 100000
theorem Heads2.inj {ds : List PyData} (h : Heads2 ds) {d d' : PyData} (hd : d ∈ ds) (hd' : d' ∈ ds) (e : headP d = headP d') : d = d' := by
  obtain ⟨i, hi, rfl⟩ := List.getElem_of_mem hd
  obtain ⟨j, hj, rfl⟩ := List.getElem_of_mem hd'
  have hn := h.un
  rw [List.Nodup, List.pairwise_iff_getElem] at hn
  by_cases hij : i = j
  · subst hij; rfl
  · exfalso
    rcases Nat.lt_or_gt_of_ne hij with q | q
    · exact hn i j (by simpa using hi) (by simpa using hj) q (by simpa using e)
    · exact hn j i (by simpa using hj) (by simpa using hi) q (by simpa using e.symm)
end Cm
namespace Cm
open PySem PySem.Spec PyProof.Rows L2
structure ExKC (K : PySem.W.Frag) (C : Addr) : Prop where
  cl : (PySem.W.clsIn K C).isSome = true
  ga : PySem.W.findIn K (.ref C) "__getattribute__" = some (some (.builtin "BaseException.__getattribute__"))
  gg : PySem.W.findIn K (.ref C) "__getattr__" = some none
  ex : PySem.W.subIn K (.ref C) (.type "BaseException") = some true
  hd : PySem.W.hasDictIn K C = true
  ha : PySem.W.findIn K (.ref C) "__class__" = some (some (.builtin "object.__class__"))
  hn : PySem.W.specialIn K (.builtin "object.__class__") "__get__" = some (some (.builtin "getset_descriptor.__get__"))
  ht : PySem.W.takesIn K (.builtin "object.__class__") = some true
  hm : PySem.W.mroIn K C (.type "object") = some true
abbrev XR := Res ⊕ (Str × List (Str × PyData))
def toldCs : List Str := ["BadRow", "Twice", "NoEntry", "BadEntry", "Full", "Nothing"]
structure ToldK (K : PySem.W.Frag) : Prop where
  exm : ∀ C ∈ toldCs, PySem.W.exmOne K (.ref (He.ga K C)) (.ref (He.ga K "CampError")) = some true
  kit : ∀ C ∈ toldCs, ∀ D ∈ toldCs, PySem.W.kitOne K (.ref (He.ga K C)) (.ref (He.ga K D)) = some (decide (C = D))
  kve : ∀ C ∈ toldCs, PySem.W.kitOne K (.ref (He.ga K C)) (.type "ValueError") = some true
  cls : ∀ C ∈ toldCs, ExKC K (He.ga K C)
  nRow : PySem.W.findIn K (.ref (He.ga K "BadRow")) "row" = some none
  nTw : PySem.W.findIn K (.ref (He.ga K "Twice")) "number" = some none
  nNo : PySem.W.findIn K (.ref (He.ga K "NoEntry")) "number" = some none
abbrev MX := Sl → Option (XR × Sl)
structure Exc0 (K : PySem.W.Frag) (mg : Str → Option Value) (x : Str) : Prop where
  g : mg x = some (.ref (He.ga K x))
  f : PySem.W.excIn K (He.ga K x) He.veBase "ValueError.__new__" = true ∧ PySem.W.keepIn K (.ref (He.ga K x)) = true ∧ PySem.W.subIn K (.ref (He.ga K x)) (.type "BaseException") = some true ∧ PySem.W.typeIn K (.ref (He.ga K x)) = some (.type "type")
structure Exc1 (K : PySem.W.Frag) (mg : Str → Option Value) (x n : Str) : Prop where
  g : mg x = some (.ref (He.ga K x))
  T : OexC K (He.ga K x)
  i : Meth K (He.ga K x) "__init__" (He.ma K (He.ga K x) "__init__")
  no : PySem.W.findIn K (.ref (He.ga K x)) n = some none
structure CampI (K : PySem.W.Frag) (mg : Str → Option Value) : Prop where
  g : mg "CampError" = some (.ref (He.ga K "CampError"))
  a : PySem.W.specialIn K (.ref (He.ga K "CampError")) "__getattribute__" = some (some (.builtin "type.__getattribute__"))
  r : PySem.W.readsIn K (He.ga K "CampError") (.type "type") = true
  f : PySem.W.findCls K (.ref (He.ga K "CampError")) (.type "type") "__init__" = some (.val (.builtin "ValueError.__init__"))
section
open He
def tabPl (K : PySem.W.Frag) (x : Str) : Option Addr := match K.lookup (ga K x) with
  | some ⟨_, _, .func fd, _⟩ => (match fd.code with
    | .ref c => (match K.lookup c with
      | some ⟨_, _, .fields vs, _⟩ => (match (vs[11]? : Option Value) with
        | some (Value.ref P) => some P
        | _ => none)
      | _ => none)
    | _ => none)
  | _ => none
theorem tabPl_of {K : PySem.W.Frag} {x : Str} {P : Addr} (h : TabAt K x P) : tabPl K x = some P := by
  obtain ⟨oc, od, fd, osl, c, ec, ed, vs, esl, h1, h2, h3, h4⟩ := h
  unfold tabPl
  rw [h1]
  dsimp only
  rw [h2]
  dsimp only
  rw [h3]
  dsimp only
  rw [h4]
structure SaysE (fa : List Fa) (fn : List DefD) (ds : List (Str × PyData)) (kd : List (Str × List (Str × PyData))) (tabs : List Str) (ex : PySem.W.Frag → Bool) (w : World) (K : PySem.W.Frag) (h : Heap) : Prop where
  c : SaysX fa fn ds kd w K
  t : ∀ x ∈ tabs, ∃ c P, TabH K h x c P
  n : (tabs.map (tabPl K)).Nodup
  e : ex K = true
structure Tabs (K : PySem.W.Frag) (h : Heap) (tabs : List Str) (cs : List (Addr × Addr)) : Prop where
  len : cs.length = tabs.length
  at_ : ∀ (n : Nat) x p, tabs[n]? = some x → cs[n]? = some p → TabH K h x p.1 p.2
  nd : (cs.map Prod.snd).Nodup
theorem tabs_of {K : PySem.W.Frag} {h : Heap} : ∀ {tabs : List Str}, (∀ x ∈ tabs, ∃ c P, TabH K h x c P) → ∃ cs : List (Addr × Addr), cs.length = tabs.length ∧ (∀ (n : Nat) x p, tabs[n]? = some x → cs[n]? = some p → TabH K h x p.1 p.2) ∧ tabs.map (tabPl K) = (cs.map Prod.snd).map some
  | [], _ => ⟨[], rfl, fun n x p z => by simp at z, rfl⟩
  | x :: tabs, t => by
    obtain ⟨c, P, z⟩ := t x List.mem_cons_self
    obtain ⟨cs, e1, e2, e3⟩ := tabs_of fun y hy => t y (List.mem_cons_of_mem _ hy)
    refine ⟨(c, P) :: cs, by rw [List.length_cons, List.length_cons, e1], fun n y p q1 q2 => ?_, ?_⟩
    · cases n with
      | zero =>
        simp at q1 q2
        subst q1 q2
        exact z
      | succ n =>
        simp at q1 q2
        exact e2 n y p q1 q2
    · rw [List.map_cons, List.map_cons, List.map_cons, tabPl_of z.at_, e3]
theorem SaysE.tabs {fa : List Fa} {fn : List DefD} {ds : List (Str × PyData)} {kd : List (Str × List (Str × PyData))} {tabs : List Str} {ex : PySem.W.Frag → Bool} {w : World} {K : PySem.W.Frag} {h : Heap} (s : SaysE fa fn ds kd tabs ex w K h) : ∃ cs, Tabs K h tabs cs := by
  obtain ⟨cs, e1, e2, e3⟩ := tabs_of s.t
  refine ⟨cs, e1, e2, ?_⟩
  have n := s.n
  rw [e3] at n
  exact (List.pairwise_map.mp n).imp fun h e => h (by rw [e])
end
structure FnA (P : Program) (w : World) (K : PySem.W.Frag) (mg : Str → Option Value) (base : Heap) (CX : CXT) (k : Nat) (x : Str) (fd : FuncData) (ps : List Str) (sp : Sp) : Prop where
  ok : FnOk P w K mg base CX k (He.ga K x) fd ps sp
  g : mg x = some (.ref (He.ga K x))
  kp : PySem.W.keepIn K (.ref (He.ga K x)) = true
  bi : Binds K fd ps []
structure MeA (P : Program) (w : World) (K : PySem.W.Frag) (mg : Str → Option Value) (base : Heap) (CX : CXT) (k : Nat) (C m : Str) (fd : FuncData) (ps : List Str) (sp : Sp) : Prop where
  ok : FnOk P w K mg base CX k (He.ma K (He.ga K C) m) fd ps sp
  cl : Cls K (He.ga K C)
  me : Meth K (He.ga K C) m (He.ma K (He.ga K C) m)
  bi : Binds K fd ps []
structure FG (K : PySem.W.Frag) (mg : Str → Option Value) (x : Str) (st : Stmt) (fd : FuncData) : Prop where
  F : FunD K x x (defArgs st) (defBody st) (defScope st) [] [] (He.ga K x) fd
  g : mg x = some (.ref (He.ga K x))
end Cm
set_option synthInstance.maxSize 10000
set_option synthInstance.maxHeartbeats 400000
local macro_rules | `(tactic| walk_at "fl") => `(tactic| first | rfl | (simp [Cm.flatR, Cm.flatS, Cm.flatD]; done) | (simp only [Cm.flatR, Cm.flatS, List.all_cons, List.all_nil, Bool.and_true]; exact Cm.flat_eO fun _ => rfl))
local macro_rules | `(tactic| walk_at "ik") => `(tactic| first | rfl | (simp [Cm.ioKept]; done))
open Lean in
local macro_rules
  | `(tactic| walk_at $s:str) => do
    let v := s.getString
    unless v.startsWith "~" do Macro.throwUnsupported
    let r ← `(rfl)
    let b ← `(_)
    let atom := fun (a : String) => show MacroM (TSyntax `term) from do
      if a == "_" then return b
      if let some n := a.toNat? then return Syntax.mkNumLit (toString n)
      let ps := a.splitOn "."
      let mut n := Name.anonymous
      let mut js : Array String := #[]
      for p in ps do
        if p == "1" || p == "2" then js := js.push p else n := Name.mkStr n p
      let mut e : TSyntax `term := mkIdent n
      for j in js do e ← if j == "1" then `(Prod.fst $e) else `(Prod.snd $e)
      return e
    let mut ts : Array (TSyntax `tactic) := #[]
    for w in (v.drop 1).toString.splitOn " " do
      let q := w.splitOn ">"
      let p := q.head!.splitOn ":"
      let f := mkIdent (Name.mkSimple ("c_" ++ p.head!))
      let mut as : Array (TSyntax `term) := #[]
      for a in p.tail! do
        if let some n := a.toNat? then as := as ++ (List.replicate n r).toArray
        else
          let l := a.splitOn ","
          let xs ← l.tail!.toArray.mapM atom
          let g ← atom l.head!
          as := as.push (← if xs.isEmpty then pure g else `($g $xs*))
      let x ← `(?_)
      let x ← q.tail!.foldrM (fun n (x : TSyntax `term) => `(fun $(mkIdent (Name.mkSimple (if n == "" then "z_" else n))) => $x)) x
      as := as.push x
      ts := ts.push (← `(tactic| refine $f $as*))
    `(tactic| ($[$ts:tactic];*))
/-! ### the text by places: law_k38_rows_of_least_effort -/
namespace Lw
open PySem L2 Cm
def topS (i : Nat) : Stmt := PySem.Challenge.pw_campcarry_k38_rows_of_least_effort.main.body.getD i (.Pass ⟨0, 0, 0, 0⟩)
abbrev s_w_folded : Stmt := topS 9
theorem sc_w_folded : FnScope ["_law_script", "_law_size", "_law_cells", "_law_k", "_law_cell"] ["_law_script", "_law_size"] (defScope s_w_folded) := ⟨rfl, rfl, rfl, by decide +kernel, rfl, by decide +kernel, by decide +kernel⟩
abbrev s_w_box : Stmt := topS 7
theorem sc_w_box : FnScope ["_law_script", "_law_k", "_law_cell"] ["_law_script", "_law_k"] (defScope s_w_box) := ⟨rfl, rfl, rfl, by decide +kernel, rfl, by decide +kernel, by decide +kernel⟩
abbrev s_w_take : Stmt := topS 8
theorem sc_w_take : FnScope ["_law_box_here", "_law_many", "_law_step", "_law_once", "_law_twice", "_law_found"] ["_law_box_here", "_law_many"] (defScope s_w_take) := ⟨rfl, rfl, rfl, by decide +kernel, rfl, by decide +kernel, by decide +kernel⟩
abbrev s_w_names : Stmt := topS 11
theorem sc_w_names : FnScope ["_law_box_here", "_law_many", "_law_letters", "_law_found", "_law_words", "_law_k", "_law_name", "_law_turn"] ["_law_box_here", "_law_many"] (defScope s_w_names) := ⟨rfl, rfl, rfl, by decide +kernel, rfl, by decide +kernel, by decide +kernel⟩
abbrev s_w_strewn : Stmt := topS 10
theorem sc_w_strewn : FnScope ["_law_box_here", "_law_some", "_law_found", "_law_k", "_law_other"] ["_law_box_here", "_law_some"] (defScope s_w_strewn) := ⟨rfl, rfl, rfl, by decide +kernel, rfl, by decide +kernel, by decide +kernel⟩
abbrev s_w_ways : Stmt := topS 13
theorem sc_w_ways : FnScope ["_law_box_here", "_law_camps", "_law_many", "_law_names_here", "_law_found", "_law_high", "_law_low", "_law_k", "_law_name", "_law_one", "_law_other", "_law_effort", "_law_pair"] ["_law_box_here", "_law_camps", "_law_many"] (defScope s_w_ways) := ⟨rfl, rfl, rfl, by decide +kernel, rfl, by decide +kernel, by decide +kernel⟩
abbrev s_w_map : Stmt := topS 14
theorem sc_w_map : FnScope ["_law_box_here", "_law_most", "_law_camps"] ["_law_box_here", "_law_most"] (defScope s_w_map) := ⟨rfl, rfl, rfl, by decide +kernel, rfl, by decide +kernel, by decide +kernel⟩
abbrev s_w_rows_from : Stmt := topS 15
theorem sc_w_rows_from : FnScope ["_law_ways_here", "_law_camp", "_law_found", "_law_last", "_law_turn", "_law_there", "_law_effort", "_law_row", "_law_onward", "_law_name", "_law_one", "_law_other", "_law_kind", "_law_here", "_law_more"] ["_law_ways_here", "_law_camp"] (defScope s_w_rows_from) := ⟨rfl, rfl, rfl, by decide +kernel, rfl, by decide +kernel, by decide +kernel⟩
abbrev s_both_ends : Stmt := topS 1
theorem sc_both_ends : FnScope ["row"] ["row"] (defScope s_both_ends) := ⟨rfl, rfl, rfl, by decide +kernel, rfl, by decide +kernel, by decide +kernel⟩
abbrev s_heights_of : Stmt := topS 2
theorem sc_heights_of : FnScope ["ways", "camp", "found", "turn", "row", "here", "there"] ["ways", "camp"] (defScope s_heights_of) := ⟨rfl, rfl, rfl, by decide +kernel, rfl, by decide +kernel, by decide +kernel⟩
abbrev s_rows_into : Stmt := topS 4
theorem sc_rows_into : FnScope ["ways", "height_by", "row_by", "camp", "some", "way", "here", "there", "@"] ["ways", "height_by", "row_by", "camp"] (defScope s_rows_into) := ⟨rfl, rfl, rfl, by decide +kernel, rfl, by decide +kernel, by decide +kernel⟩
abbrev s_least_row : Stmt := topS 5
theorem sc_least_row : FnScope ["ways", "camp", "other", "height_by", "row_by", "height", "there", "@"] ["ways", "camp", "other"] (defScope s_least_row) := ⟨rfl, rfl, rfl, by decide +kernel, rfl, by decide +kernel, by decide +kernel⟩
abbrev s_w_same : Stmt := topS 12
theorem sc_w_same : FnScope ["_law_found", "_law_due", "_law_one", "_law_other"] ["_law_found", "_law_due"] (defScope s_w_same) := ⟨rfl, rfl, rfl, by decide +kernel, rfl, by decide +kernel, by decide +kernel⟩
abbrev s_w_walked : Stmt := topS 16
theorem sc_w_walked : FnScope ["_law_ways_here", "_law_camp", "_law_row", "_law_named", "_law_whole", "_law_name", "_law_way"] ["_law_ways_here", "_law_camp", "_law_row"] (defScope s_w_walked) := ⟨rfl, rfl, rfl, by decide +kernel, rfl, by decide +kernel, by decide +kernel⟩
abbrev s_law : Stmt := topS 17
theorem sc_law : FnScope ["_law_script", "_law_cells", "_law_k", "_law_box_here", "_law_ways_here", "_law_camps", "_law_given", "_law_asked", "_law_camp", "_law_rows", "_law_heights", "_law_other", "_law_due", "_law_turn", "_law_told", "@"] ["_law_script"] (defScope s_law) := ⟨rfl, rfl, rfl, by decide +kernel, rfl, by decide +kernel, by decide +kernel⟩
abbrev s_row_rank : Stmt := topS 3
theorem sc_row_rank : FnScope ["row"] ["row"] (defScope s_row_rank) := ⟨rfl, rfl, rfl, by decide +kernel, rfl, by decide +kernel, by decide +kernel⟩
abbrev FnP (K : PySem.W.Frag) (x : Str) (st : Stmt) (f : Addr) (fd : FuncData) : Prop := FunD K x x (defArgs st) (defBody st) (defScope st) [] [] f fd
structure Tx (w : World) (K : PySem.W.Frag) (mg : Str → Option Value) (fd : Nat → FuncData) : Prop where
  F_w_folded : FnP K "_law_folded" s_w_folded (He.ga K "_law_folded") (fd 0)
  g_w_folded : mg "_law_folded" = some (.ref (He.ga K "_law_folded"))
  F_w_box : FnP K "_law_box" s_w_box (He.ga K "_law_box") (fd 1)
  g_w_box : mg "_law_box" = some (.ref (He.ga K "_law_box"))
  F_w_take : FnP K "_law_take" s_w_take (He.ga K "_law_take") (fd 2)
  g_w_take : mg "_law_take" = some (.ref (He.ga K "_law_take"))
  F_w_names : FnP K "_law_names" s_w_names (He.ga K "_law_names") (fd 3)
  g_w_names : mg "_law_names" = some (.ref (He.ga K "_law_names"))
  F_w_strewn : FnP K "_law_strewn" s_w_strewn (He.ga K "_law_strewn") (fd 4)
  g_w_strewn : mg "_law_strewn" = some (.ref (He.ga K "_law_strewn"))
  F_w_ways : FnP K "_law_ways" s_w_ways (He.ga K "_law_ways") (fd 5)
  g_w_ways : mg "_law_ways" = some (.ref (He.ga K "_law_ways"))
  F_w_map : FnP K "_law_map" s_w_map (He.ga K "_law_map") (fd 6)
  g_w_map : mg "_law_map" = some (.ref (He.ga K "_law_map"))
  F_w_rows_from : FnP K "_law_rows_from" s_w_rows_from (He.ga K "_law_rows_from") (fd 7)
  g_w_rows_from : mg "_law_rows_from" = some (.ref (He.ga K "_law_rows_from"))
  F_both_ends : FnP K "both_ends" s_both_ends (He.ga K "both_ends") (fd 8)
  g_both_ends : mg "both_ends" = some (.ref (He.ga K "both_ends"))
  F_heights_of : FnP K "heights_of" s_heights_of (He.ga K "heights_of") (fd 9)
  g_heights_of : mg "heights_of" = some (.ref (He.ga K "heights_of"))
  F_rows_into : FnP K "rows_into" s_rows_into (He.ga K "rows_into") (fd 10)
  g_rows_into : mg "rows_into" = some (.ref (He.ga K "rows_into"))
  F_least_row : FnP K "least_row" s_least_row (He.ga K "least_row") (fd 11)
  g_least_row : mg "least_row" = some (.ref (He.ga K "least_row"))
  F_w_same : FnP K "_law_same" s_w_same (He.ga K "_law_same") (fd 12)
  g_w_same : mg "_law_same" = some (.ref (He.ga K "_law_same"))
  F_w_walked : FnP K "_law_walked" s_w_walked (He.ga K "_law_walked") (fd 13)
  g_w_walked : mg "_law_walked" = some (.ref (He.ga K "_law_walked"))
  F_law : FnP K "law" s_law (He.ga K "law") (fd 14)
  g_law : mg "law" = some (.ref (He.ga K "law"))
  F_row_rank : FnP K "row_rank" s_row_rank (He.ga K "row_rank") (fd 15)
  g_row_rank : mg "row_rank" = some (.ref (He.ga K "row_rank"))
  b_abs : mg "abs" = none
  b_all : mg "all" = none
  b_bool : mg "bool" = none
  b_dict : mg "dict" = none
  b_enumerate : mg "enumerate" = none
  b_int : mg "int" = none
  b_isinstance : mg "isinstance" = none
  b_len : mg "len" = none
  b_list : mg "list" = none
  b_max : mg "max" = none
  b_min : mg "min" = none
  b_range : mg "range" = none
  b_sorted : mg "sorted" = none
  b_str : mg "str" = none
  b_tuple : mg "tuple" = none
  b_zip : mg "zip" = none
end Lw
namespace Lw
open PySem PySem.Spec PyProof.Rows L2 Cm
def d_w_folded : He.DefD := ⟨("_law_folded", none), "_law_folded", "_law_folded", defArgs s_w_folded, defBody s_w_folded, defScope s_w_folded, [], []⟩
def d_w_box : He.DefD := ⟨("_law_box", none), "_law_box", "_law_box", defArgs s_w_box, defBody s_w_box, defScope s_w_box, [], []⟩
def d_w_take : He.DefD := ⟨("_law_take", none), "_law_take", "_law_take", defArgs s_w_take, defBody s_w_take, defScope s_w_take, [], []⟩
def d_w_names : He.DefD := ⟨("_law_names", none), "_law_names", "_law_names", defArgs s_w_names, defBody s_w_names, defScope s_w_names, [], []⟩
def d_w_strewn : He.DefD := ⟨("_law_strewn", none), "_law_strewn", "_law_strewn", defArgs s_w_strewn, defBody s_w_strewn, defScope s_w_strewn, [], []⟩
def d_w_ways : He.DefD := ⟨("_law_ways", none), "_law_ways", "_law_ways", defArgs s_w_ways, defBody s_w_ways, defScope s_w_ways, [], []⟩
def d_w_map : He.DefD := ⟨("_law_map", none), "_law_map", "_law_map", defArgs s_w_map, defBody s_w_map, defScope s_w_map, [], []⟩
def d_w_rows_from : He.DefD := ⟨("_law_rows_from", none), "_law_rows_from", "_law_rows_from", defArgs s_w_rows_from, defBody s_w_rows_from, defScope s_w_rows_from, [], []⟩
def d_both_ends : He.DefD := ⟨("both_ends", none), "both_ends", "both_ends", defArgs s_both_ends, defBody s_both_ends, defScope s_both_ends, [], []⟩
def d_heights_of : He.DefD := ⟨("heights_of", none), "heights_of", "heights_of", defArgs s_heights_of, defBody s_heights_of, defScope s_heights_of, [], []⟩
def d_rows_into : He.DefD := ⟨("rows_into", none), "rows_into", "rows_into", defArgs s_rows_into, defBody s_rows_into, defScope s_rows_into, [], []⟩
def d_least_row : He.DefD := ⟨("least_row", none), "least_row", "least_row", defArgs s_least_row, defBody s_least_row, defScope s_least_row, [], []⟩
def d_w_same : He.DefD := ⟨("_law_same", none), "_law_same", "_law_same", defArgs s_w_same, defBody s_w_same, defScope s_w_same, [], []⟩
def d_w_walked : He.DefD := ⟨("_law_walked", none), "_law_walked", "_law_walked", defArgs s_w_walked, defBody s_w_walked, defScope s_w_walked, [], []⟩
def d_law : He.DefD := ⟨("law", none), "law", "law", defArgs s_law, defBody s_law, defScope s_law, [], []⟩
def d_row_rank : He.DefD := ⟨("row_rank", none), "row_rank", "row_rank", defArgs s_row_rank, defBody s_row_rank, defScope s_row_rank, [], []⟩
def fn : List He.DefD := [d_w_folded, d_w_box, d_w_take, d_w_names, d_w_strewn, d_w_ways, d_w_map, d_w_rows_from, d_both_ends, d_heights_of, d_rows_into, d_least_row, d_w_same, d_w_walked, d_law, d_row_rank]
def fa : List He.Fa := [.glo "_law_folded", .glo "_law_box", .glo "_law_take", .glo "_law_names", .glo "_law_strewn", .glo "_law_ways", .glo "_law_map", .glo "_law_rows_from", .glo "both_ends", .glo "heights_of", .glo "rows_into", .glo "least_row", .glo "_law_same", .glo "_law_walked", .glo "law", .glo "row_rank", .free "abs", .free "all", .free "bool", .free "dict", .free "enumerate", .free "int", .free "isinstance", .free "len", .free "list", .free "max", .free "min", .free "range", .free "sorted", .free "str", .free "tuple", .free "zip"]
abbrev R : PySem.W.OpenRow := PySem.W.OpenLaw.row PySem.Challenge.rw_campcarry_k38_rows_of_least_effort
def dsC : List (Str × PyData) := []
def kdC : List (Str × List (Str × PyData)) := []
abbrev hk : PySem.W.Hook := Cm.hookY 4 fa fn dsC kdC
def ob (s : PySem.W.SharedT) : Cm.AlX := Cm.obsYG 4 fa fn dsC kdC (HandSHeadRun.getT s)
theorem ob_eq (s : PySem.W.SharedT) : ob s = hk.obs s.abs := Cm.obsYG_eq (HandSHeadRun.getT_eq s)
set_option maxHeartbeats 0 in
theorem run (w : World) : HandSHeadRun.RunEq R (PySem.W.view R.prog [17]) hk ob 3000 ["both_ends", "heights_of", "row_rank", "rows_into", "least_row", "_law_box", "_law_take", "_law_folded", "_law_strewn", "_law_names", "_law_same", "_law_ways", "_law_map", "_law_rows_from", "_law_walked"] w := by
  intro os
  kernel_rfl
def Facts : Prop := ∀ {P : Program} {w : World} {K : PySem.W.Frag} {h : Heap} {mg : Str → Option Value} {f : Addr} (X : K.In h) (G : h.Ns mainGlobals mg) (hfa : mg ("law" : Str) = some (.ref f)) (cX : Cm.SaysX fa fn dsC kdC w K), ∃ fd : FuncData, (∀ (s : Shared) (v : Value), BindsTo s fd ⟨[v], []⟩ [("_law_script", v)]) ∧ ∀ base : Heap, K.In base → base.Ns mainGlobals mg → FnOk P w K mg base CX0 11 f fd ["_law_script"] (spLaw K)
end Lw
section
open PySem PySem.W PySem.Calls PyProof.Rows
set_option maxHeartbeats 0 in
theorem Lw.pre (FACTS : Lw.Facts) : PySem.Challenge.rw_campcarry_k38_rows_of_least_effort.Holds := by
  w_on; o_law
  refine HandSHeadRun.head_any (r := OpenLaw.row PySem.Challenge.rw_campcarry_k38_rows_of_least_effort) (q := view (OpenLaw.row PySem.Challenge.rw_campcarry_k38_rows_of_least_effort).prog [17]) (H := Lw.hk) (ob := Lw.ob) (M := 3000) (loose := ["both_ends", "heights_of", "row_rank", "rows_into", "least_row", "_law_box", "_law_take", "_law_folded", "_law_strewn", "_law_names", "_law_same", "_law_ways", "_law_map", "_law_rows_from", "_law_walked"]) (d := HandSHeadRun.topDef (OpenLaw.row PySem.Challenge.rw_campcarry_k38_rows_of_least_effort).prog 17) (kwd := []) Lw.ob_eq
    (by kernel_rfl) (fun s => by kernel_rfl) Lw.run (by kernel_rfl) (by kernel_rfl) (by kernel_rfl) (by rfl) (by first | assumption | decide +kernel) (by decide +kernel) ⟨rfl, rfl, rfl, rfl, rfl, by decide +kernel⟩ ?hw ?hc
  case hw => w_witness2
  case hc =>
    refine L2.walk_ofE (l := PySem.Challenge.rw_campcarry_k38_rows_of_least_effort) (n := 63) (k := 11) (x := "_law_script") (CX := L2.CX0) rfl (by decide) (by kernel_rfl) ⟨rfl, by decide, by decide⟩ ?F (fun _ _ _ _ z => z)
    intro w mg fa h Y G hmg0
    obtain ⟨K, KX, c⟩ := Y
    have hmg : mg ("law" : PySem.Str) = some (.ref fa) := by
      have e : (HandSHeadRun.topDef (OpenLaw.row PySem.Challenge.rw_campcarry_k38_rows_of_least_effort).prog 17).name = ("law" : PySem.Str) := by kernel_rfl
      rw [← e]
      exact hmg0
    have FF := @FACTS
    unfold Lw.Facts at FF
    obtain ⟨fd, hb, hF⟩ := FF (P := (PySem.Challenge.rw_campcarry_k38_rows_of_least_effort).prog) (w := w) KX G hmg c
    exact ⟨K, fd, Cm.spLaw K, KX, hb, fun H a ns hl _ hS => ⟨a, ns, rfl, hS, hl, fun _ => rfl⟩, hF⟩
end
namespace Cm
open PySem L2
theorem DvAll.get {K : PySem.W.Frag} {H : Hp} : ∀ {vs : List V} {ds : List PyData}, DvAll K H vs ds → ∀ (i : Nat) (d : PyData), ds[i]? = some d → ∃ v, vs[i]? = some v ∧ Dv K H v d
  | _, _, .nil, i, d, h => by simp at h
  | _, _, .cons h1 h2, 0, d, h => by
    simp at h
    subst h
    exact ⟨_, rfl, h1⟩
  | _, _, .cons h1 h2, i + 1, d, h => by
    obtain ⟨v, e, q⟩ := DvAll.get h2 i d (by simpa using h)
    exact ⟨v, by simpa using e, q⟩
theorem DvAll.append {K : PySem.W.Frag} {H : Hp} : ∀ {vs ws : List V} {ds es : List PyData}, DvAll K H vs ds → DvAll K H ws es → DvAll K H (vs ++ ws) (ds ++ es)
  | _, _, _, _, .nil, h => h
  | _, _, _, _, .cons h1 h2, h => .cons h1 (DvAll.append h2 h)
theorem DvAll.erase {K : PySem.W.Frag} {H : Hp} : ∀ {vs : List V} {ds : List PyData} (i : Nat), DvAll K H vs ds → DvAll K H (vs.eraseIdx i) (ds.eraseIdx i)
  | _, _, _, .nil => .nil
  | _, _, 0, .cons _ h2 => h2
  | _, _, i + 1, .cons h1 h2 => .cons h1 (DvAll.erase i h2)

section
variable {K : PySem.W.Frag} {B : Fb} {env : Sl} {σ : St} {Hk Hk' : Kn} {H H' : Hp}
theorem Rel.setPv (R : Rel K B env σ Hk H) {i : Nat} {v : V} {p : PV} (h : PvOk K Hk v p) : Rel K B (env.set i (.pv p)) (σ.set i (some v)) Hk H := R.setW (fun z => z) (fun M z => by cases z) ⟨v, rfl, h⟩
theorem Rel.setOwn (R : Rel K B env σ Hk H) {i : Nat} {a : Addr} {c : Cell} (h1 : Hk a = none) (h2 : B.H0 a = none) (h3 : CellAt K Hk H a c) (h5 : ∀ (n : Nat), Hk.P n ≠ some a) (h4 : ∀ (j : Nat) s, env[j]? = some s → s.mut → σ[j]? ≠ some (some (V.ref a))) :
    Rel K B (env.set i (.own c)) (σ.set i (some (V.ref a))) Hk H where
  ex := R.ex
  kn := R.kn
  fr := R.fr
  kp := R.kp
  oin := R.oin
  o0 := R.o0
  len := by rw [List.length_set, List.length_set]; exact R.len
  slot := fun j t hj => by
    rcases set_get hj with ⟨rfl, rfl⟩ | ⟨hne, hj'⟩
    · have hl : j < σ.length := by
        have := (List.getElem?_eq_some_iff.mp hj).1
        rw [List.length_set] at this
        rw [← R.len]
        exact this
      exact ⟨some (.ref a), by rw [List.getElem?_set_self hl], a, rfl, h1, h2, h3⟩
    · obtain ⟨o, g1, g2⟩ := R.slot j t hj'
      exact ⟨o, by rw [List.getElem?_set_ne (fun z => hne z.symm)]; exact g1, g2⟩
  sep := fun j k s t b hj hk ms mt g1 g2 => by
    rcases set_get hj with ⟨rfl, rfl⟩ | ⟨n1, hj2⟩
    · rcases set_get hk with ⟨rfl, rfl⟩ | ⟨n2, hk⟩
      · rfl
      · rw [List.getElem?_set_ne (fun z => n2 z.symm)] at g2
        rcases set_get g1 with ⟨_, e⟩ | ⟨z, _⟩
        · cases e
          exact absurd g2 (h4 k t hk mt)
        · exact absurd rfl z
    · rw [List.getElem?_set_ne (fun z => n1 z.symm)] at g1
      rcases set_get hk with ⟨rfl, rfl⟩ | ⟨n2, hk⟩
      · rcases set_get g2 with ⟨_, e⟩ | ⟨z, _⟩
        · cases e
          exact absurd g1 (h4 j s hj2 ms)
        · exact absurd rfl z
      · rw [List.getElem?_set_ne (fun z => n2 z.symm)] at g2
        exact R.sep j k s t b hj2 hk ms mt g1 g2
  sok := fun M h => R.sok M (hasSto_set h (fun M z => by cases z))
  pin := R.pin
  psep := fun j s b n hj ms g => by
    rcases set_get hj with ⟨rfl, rfl⟩ | ⟨n1, hj⟩
    · rcases set_get g with ⟨_, e⟩ | ⟨z, _⟩
      · cases e
        exact h5 n
      · exact absurd rfl z
    · rw [List.getElem?_set_ne (fun z => n1 z.symm)] at g
      exact R.psep j s b n hj ms g
def Slot.put : Slot → Cell → Slot
  | .own _, c => .own c
  | .io k _, c => .io k c
  | s, _ => s
theorem Slot.put_sto {s : Slot} {c : Cell} (hm : s.mut) : ∀ M, s.put c ≠ .sto M := fun M z => by
  cases s with
  | own c => cases z
  | io k c => cases z
  | _ => cases hm
theorem Rel.change (R : Rel K B env σ Hk H) {i : Nat} {s : Slot} {c' : Cell} {a : Addr} {o' : HO} (hs : env[i]? = some s) (hm : s.mut) (ha : σ[i]? = some (some (V.ref a))) (h3 : CellAt K Hk (upd H a o') a c') :
    Rel K B (env.set i (s.put c')) σ Hk (upd H a o') := by
  obtain ⟨o, h1, h2⟩ := R.slot i s hs
  rw [ha] at h1
  cases h1
  have hk : Hk a = none := by
    cases s with
    | own c => obtain ⟨b, e1, q1, _⟩ := h2; cases e1; exact q1
    | io k c => obtain ⟨b, e1, q1, _⟩ := h2; cases e1; exact q1
    | _ => cases hm
  have h0 : B.H0 a = none ∨ B.io a := by
    cases s with
    | own c => obtain ⟨b, e1, _, q1, _⟩ := h2; cases e1; exact .inl q1
    | io k c => obtain ⟨b, e1, _, q1, _⟩ := h2; cases e1; exact .inr (.inl ⟨k, q1⟩)
    | _ => cases hm
  have hob : ∃ u, H a = some u ∧ ∀ x, u ≠ .own x := by
    have fin : ∀ c, CellAt K Hk H a c → ∃ u, H a = some u ∧ ∀ x, u ≠ .own x := fun c hc => by
      cases c with
      | lst ds =>
        obtain ⟨vs, g1, _⟩ := hc
        exact ⟨_, g1, fun x z => by cases z⟩
      | dct ds =>
        obtain ⟨vs, g1, _⟩ := hc
        exact ⟨_, g1, fun x z => by cases z⟩
    cases s with
    | own c => obtain ⟨b, e1, _, _, q⟩ := h2; cases e1; exact fin c q
    | io k c => obtain ⟨b, e1, _, _, q⟩ := h2; cases e1; exact fin c q
    | _ => cases hm
  refine ⟨?_, R.kn, R.fr, ?_, ?_, R.o0, ?_, ?_, ?_, fun M h => ?_, fun n b h => ?_, ?_⟩
  · intro b x e
    have hb : b ≠ a := fun z => by rw [z, hk] at e; cases e
    rw [upd_ne hb]
    exact R.ex _ _ e
  · intro b x e hO
    have hb : b ≠ a := fun z => by
      subst z
      rcases h0 with z | z
      · rw [z] at e; cases e
      · exact hO z
    rw [upd_ne hb]
    exact R.kp b x e hO
  · intro b hb
    refine ⟨?_, (R.oin b hb).2⟩
    by_cases e : b = a
    · rw [e, upd_same]
      exact fun z => nomatch z
    · rw [upd_ne e]
      exact (R.oin b hb).1
  · rw [List.length_set]
    exact R.len
  · intro j t hj
    rcases set_get hj with ⟨rfl, rfl⟩ | ⟨hne, hj⟩
    · refine ⟨_, ha, ?_⟩
      cases s with
      | own c => obtain ⟨b, e1, q1, q2, _⟩ := h2; cases e1; exact ⟨a, rfl, q1, q2, h3⟩
      | io k c => obtain ⟨b, e1, q1, q2, _⟩ := h2; cases e1; exact ⟨a, rfl, q1, q2, h3⟩
      | _ => cases hm
    · obtain ⟨o, g1, g2⟩ := R.slot j t hj
      refine ⟨o, g1, ?_⟩
      have nea : ∀ b, t.mut → o = some (.ref b) → b ≠ a := fun b hmt e z => by
        subst e z
        exact hne (R.sep j i t s b hj hs hmt hm g1 ha)
      cases t with
      | own c =>
        obtain ⟨b, e1, z1, z2, z3⟩ := g2
        exact ⟨b, e1, z1, z2, z3.mono (Same.refl _) fun o z => by rw [upd_ne (nea b trivial e1)]; exact z⟩
      | io k c =>
        obtain ⟨b, e1, z1, z2, z3⟩ := g2
        exact ⟨b, e1, z1, z2, z3.mono (Same.refl _) fun o z => by rw [upd_ne (nea b trivial e1)]; exact z⟩
      | _ => exact g2
  · have pm : ∀ {t : Slot} {c : Cell}, (t.put c).mut → t.mut := fun {t c} z => by
      cases t <;> exact z
    intro j k s1 t1 b hj hk' ms mt g1 g2
    rcases set_get hj with ⟨rfl, rfl⟩ | ⟨_, hj2⟩
    · rcases set_get hk' with ⟨rfl, rfl⟩ | ⟨_, hk'⟩
      · rfl
      · exact R.sep j k s t1 b hs hk' hm mt g1 g2
    · rcases set_get hk' with ⟨rfl, rfl⟩ | ⟨_, hk'⟩
      · exact R.sep j k s1 s b hj2 hs ms hm g1 g2
      · exact R.sep j k s1 t1 b hj2 hk' ms mt g1 g2
  · refine (R.sok M (hasSto_set h (Slot.put_sto hm))).mono (Same.refl _) rfl (fun _ _ _ z => z) (fun b o ⟨n, hb⟩ z => ?_) fun dx b z => ?_
    · have ne : b ≠ a := fun e => R.psep i s a n hs hm ha (e ▸ hb)
      rw [upd_ne ne]
      exact z
    · have ne : dx ≠ a := fun e => by
        obtain ⟨u, hu, hx⟩ := hob
        rw [e, hu] at z
        exact hx b (Option.some.inj z)
      rw [upd_ne ne]
      exact z
  · refine ⟨?_, (R.pin n b h).2⟩
    by_cases e : b = a
    · rw [e, upd_same]
      exact fun z => nomatch z
    · rw [upd_ne e]
      exact (R.pin n b h).1
  · intro j s1 b n hj ms g
    rcases set_get hj with ⟨rfl, rfl⟩ | ⟨_, hj2⟩
    · exact R.psep j s b n hs hm g
    · exact R.psep j s1 b n hj2 ms g
end
def tT (K : PySem.W.Frag) (m : MT) : TT := fun σ H Q => ∃ B env Hk b env', Rel K B env σ Hk H ∧ m env = some (b, env') ∧
  ∀ Hk' H', Rel K B env' σ Hk' H' → KSame Hk Hk' → Q b H'
def tA (K : PySem.W.Frag) (m : MA) : TA := fun σ H Q => ∃ B env Hk rs env', Rel K B env σ Hk H ∧ m env = some (rs, env') ∧
  ∀ vs Hk' H', Rel K B env' σ Hk' H' → KSame Hk Hk' → RsAll K σ Hk' rs vs → Q vs H'
section
variable {K : PySem.W.Frag} {B : Fb} {env : Sl} {σ : St} {Hk Hk' : Kn} {H H' : Hp} {r : Res} {v : V} {d : PyData}
theorem Rel.knP (R : Rel K B env σ Hk H) {p : PV} (h : PvOk K Hk v p) (e : p.kn (sto env) = some d) : Dv K Hk v d := by
  cases h with
  | dat q =>
    cases e
    exact q
  | tup q1 q2 =>
    obtain ⟨ds, h3, rfl⟩ := Option.map_eq_some_iff.mp e
    exact .tup q1.sq (datsP_dv q2 h3)
  | @ref a n q =>
    unfold PV.kn at e
    simp only at e
    cases hc : (sto env)[n]? with
    | none => simp only [hc] at e; cases e
    | some c =>
      obtain ⟨hS, b, g1, g2, g3⟩ := R.stoAt hc
      rw [q] at g1
      cases g1
      simp only [hc] at e
      cases c with
      | lk es =>
        cases e
        obtain ⟨od, kvs, h1, h2⟩ := g2
        exact .dct (.inr ⟨od, h1⟩) h2
      | kn c' =>
        cases c' with
        | lst ps =>
          obtain ⟨ds, h3, rfl⟩ := Option.map_eq_some_iff.mp e
          obtain ⟨vs, h4, h5⟩ := g2
          exact .lst h4 (datsP_dv h5 h3)
        | dct ps =>
          obtain ⟨ds, h3, rfl⟩ := Option.map_eq_some_iff.mp e
          obtain ⟨vs, h4, h5⟩ := g2
          exact .dct (.inl h4) (datsK_dv h5 h3)
        | _ => cases e
      | _ => cases e
theorem Rel.deepP (R : Rel K B env σ Hk H) {Hl : Hp} (s : Same Hk Hl) (hl : ∀ (n : Nat) c a, (sto env)[n]? = some c → c.live → Hk.P n = some a → Hl a = H a) : ∀ (f : Nat) {p : PV} {v : V} {d : PyData}, PvOk K Hk v p → p.deep (sto env) f = some d → Dv K Hl v d
  | f, .dat d', v, d, h, e => by
    have e : some d' = some d := by cases f <;> exact e
    cases e
    cases h with
    | dat q => exact dv_mono s _ _ q
  | 0, .tup ps, v, d, h, e => by cases e
  | 0, .ref n, v, d, h, e => by cases e
  | f + 1, .tup ps, v, d, h, e => by
    obtain ⟨ds, h3, rfl⟩ := Option.map_eq_some_iff.mp e
    cases h with
    | @tup a vs _ q1 q2 => exact .tup (same_tup s q1.sq) (deepAll (fun w g => Rel.deepP R s hl f w g) q2 h3)
  | f + 1, .ref n, v, d, h, e => by
    cases h with
    | @ref a _ q =>
      unfold PV.deep at e
      cases hc : (sto env)[n]? with
      | none => simp only [hc] at e; cases e
      | some c =>
        obtain ⟨hS, b, g1, g2, g3⟩ := R.stoAt hc
        rw [q] at g1
        cases g1
        simp only [hc] at e
        have hla := hl n c a hc
        clear hc
        cases c with
        | ins C fs => cases e
        | tab x => cases e
        | lk es =>
          cases e
          obtain ⟨od, kvs, h1, h2⟩ := g2
          exact .dct (.inr ⟨od, s _ _ h1⟩) (dvKv_mono s h2)
        | kn c' =>
          cases c' with
          | lst ps =>
            obtain ⟨ds, h3, rfl⟩ := Option.map_eq_some_iff.mp e
            obtain ⟨vs, h4, q2⟩ := g2
            exact .lst (s _ _ h4) (deepAll (fun w g => Rel.deepP R s hl f w g) q2 h3)
          | dct ps =>
            obtain ⟨ds, h3, rfl⟩ := Option.map_eq_some_iff.mp e
            obtain ⟨vs, h4, q2⟩ := g2
            exact .dct (.inl (s _ _ h4)) (deepKv (fun w g => Rel.deepP R s hl f w g) q2 h3)
          | _ => cases e
        | lst ps =>
          have ha := hla trivial q
          obtain ⟨ds, h3, rfl⟩ := Option.map_eq_some_iff.mp e
          obtain ⟨vs, h4, q2⟩ := g2
          exact .lst (by rw [ha]; exact h4) (deepAll (fun w g => Rel.deepP R s hl f w g) q2 h3)
        | dct ps =>
          have ha := hla trivial q
          obtain ⟨ds, h3, rfl⟩ := Option.map_eq_some_iff.mp e
          obtain ⟨vs, h4, q2⟩ := g2
          exact .dct (.inl (by rw [ha]; exact h4)) (deepKv (fun w g => Rel.deepP R s hl f w g) q2 h3)
theorem View.dv {Hk : Hp} (h : View K Hk H v d) (e : Same Hk H) : Dv K H v d := by
  rcases h with h | ⟨a, c, rfl, rfl, h1⟩
  · exact dv_mono e d v h
  · obtain ⟨ob, h2, h3⟩ := h1.obj
    exact h3 _ e h2
end
abbrev VT (X : Cx) (e : Expr) (m : MT) : Prop := PT X e (tT X.K m)
abbrev VW (X : Cx) (e : Expr) (m : MT) : Prop := PW X e (tT X.K m)
abbrev VA (X : Cx) (es : List Expr) (m : MA) : Prop := PA X es (tA X.K m)
def mName (i : Nat) : ME := fun env => match env[i]? with
  | some (.val d) => some (.dat d, env)
  | some (.own _) => some (.slt i, env)
  | some (.io _ _) => some (.slt i, env)
  | some (.scr _) => some (.slt i, env)
  | some (.pv p) => some (.pv p, env)
  | _ => none
def mC (d : PyData) : ME := fun env => some (.dat d, env)
section
variable {X : Cx} {K : PySem.W.Frag}
theorem name_run {i : Nat} {σ : St} {H : Hp} {Q : VK} (h : tE K (mName i) σ H Q) : tVar i σ H Q := by
  obtain ⟨B, env, Hk, r, env', R, hm, k⟩ := h
  unfold mName at hm
  cases q : env[i]? with
  | none =>
    rw [q] at hm
    cases hm
  | some s =>
    rw [q] at hm
    obtain ⟨o, h1, h2⟩ := R.slot i s q
    cases s with
    | no => cases hm
    | val d =>
      cases hm
      obtain ⟨v, rfl, z⟩ := h2
      exact ⟨v, h1, k v Hk H R (.refl _) z⟩
    | own c =>
      cases hm
      obtain ⟨a, rfl, z⟩ := h2
      exact ⟨_, h1, k _ Hk H R (.refl _) h1⟩
    | io k c =>
      cases hm
      obtain ⟨a, rfl, z⟩ := h2
      exact ⟨_, h1, k _ Hk H R (.refl _) h1⟩
    | scr c =>
      cases hm
      obtain ⟨a, rfl, z⟩ := h2
      exact ⟨_, h1, k _ Hk H R (.refl _) h1⟩
    | pv p =>
      cases hm
      obtain ⟨v, rfl, z⟩ := h2
      exact ⟨v, h1, k v Hk H R (.refl _) z⟩
    | sto M => cases hm
    | pin a => cases hm
theorem ve_name (i : Nat) {x : Str} {pos : Pos} (hN : X.N[i]? = some x := by rfl) (hv : Vis X.env.scope x := by first | exact Or.inl rfl | exact Or.inr (Or.inl rfl) | exact Or.inr (Or.inr rfl)) (hd : (x == ("__debug__" : Str)) = false := by decide)
    (hcd : (x == ("__classdict__" : Str)) = false := by decide) : VE X (.Name x pos) (mName i) := (pe_var hN hv hd hcd).imp fun _ _ _ => name_run
theorem c_run {v : V} {d : PyData} (hd : ∀ Hk, Dv K Hk v d) {σ : St} {H : Hp} {Q : VK} (h : tE K (mC d) σ H Q) : tC v σ H Q := by
  obtain ⟨B, env, Hk, r, env', R, hm, k⟩ := h
  cases hm
  exact k v Hk H R (.refl _) (hd Hk)
theorem ve_int {i j pos} : VE X (.Constant (.int i) j pos) (mC (.int i)) := pe_int.imp fun _ _ _ => c_run fun _ => .int i
theorem ve_bl {b j pos} : VE X (.Constant (.bool b) j pos) (mC (.bool b)) := pe_bl.imp fun _ _ _ => c_run fun _ => .bl b
theorem ve_non {j pos} : VE X (.Constant .none j pos) (mC .none) := pe_non.imp fun _ _ _ => c_run fun _ => .non
theorem ve_str {x j pos} : VE X (.Constant (.str x) j pos) (mC (.str x)) := pe_str.imp fun _ _ _ => c_run fun _ => .str x
end
def mFrz (m : ME) : ME := fun env => (m env).bind frz
section
variable {X : Cx} {K : PySem.W.Frag}
theorem frz_run {m : ME} {σ : St} {H : Hp} {Q : VK} (h : tE K (mFrz m) σ H Q) : tE K m σ H Q := by
  obtain ⟨B, env, Hk, r, env', R, hm, k⟩ := h
  obtain ⟨⟨r1, e1⟩, h1, h2⟩ := Option.bind_eq_some_iff.mp hm
  refine ⟨B, env, Hk, r1, e1, R, h1, fun v Hk1 H1 R1 s1 o1 => ?_⟩
  obtain ⟨Hk', d, rfl, R', s', z⟩ := R1.frz o1 h2
  exact k v Hk' H1 R' (s1.trans s') z
theorem ve_frz {e : Expr} {m : ME} (h : VE X e m) : VE X e (mFrz m) := h.imp fun _ _ _ => frz_run
end
def OpD (K : PySem.W.Frag) (r : R2) (g : PyData → PyData → Option Res) : Prop := ∀ (Hk H : Hp) (x y : V) (dx dy : PyData) (res : Res) (Q : VK), Same Hk H → View K Hk H x dx → View K Hk H y dy → g dx dy = some res → (∀ v H', Out K Hk H res v H' → Q v H') → r x y H Q
def mOp (g : PyData → PyData → Option Res) (ma mb : ME) : ME := fun env => (ma env).bind fun p => (mb p.2).bind fun q => (rdv q.2 (stab p.1)).bind fun dx => (rdv q.2 (stab q.1)).bind fun dy => (g dx dy).map fun r => (r, q.2)
section
variable {X : Cx} {K : PySem.W.Frag} {g g' : PyData → PyData → Option Res} {r r' : R2} {ma mb mc : ME} {a b c : Expr} {pos : Pos}
theorem op_run (hg : OpD K r g) {σ : St} {H : Hp} {Q : VK} (h : tE K (mOp g ma mb) σ H Q) : tOp r (tE K ma) (tE K mb) σ H Q := by
  obtain ⟨B, env, Hk, res, env', R, hm, k⟩ := h
  obtain ⟨⟨x, e1⟩, h1, hm⟩ := Option.bind_eq_some_iff.mp hm
  obtain ⟨⟨y, e2⟩, h2, hm⟩ := Option.bind_eq_some_iff.mp hm
  obtain ⟨dx, h3, hm⟩ := Option.bind_eq_some_iff.mp hm
  obtain ⟨dy, h4, hm⟩ := Option.bind_eq_some_iff.mp hm
  obtain ⟨res', h5, hm⟩ := Option.map_eq_some_iff.mp hm
  cases hm
  refine ⟨B, env, Hk, x, e1, R, h1, fun v Hk1 H1 R1 s1 o1 => ?_⟩
  obtain ⟨Hk1', R1', s1', o1'⟩ := R1.stab o1
  refine ⟨B, e1, Hk1', y, e2, R1', h2, fun w Hk2 H2 R2 s2 o2 => ?_⟩
  obtain ⟨Hk2', R2', s2', o2'⟩ := R2.stab o2
  refine hg Hk2' H2 v w dx dy res Q R2'.ex (R2'.view ((o1'.mono s2).mono s2') h3) (R2'.view o2' h4) h5 fun z H3 out => ?_
  obtain ⟨Hk3, R3, s3, o3⟩ := R2'.out out
  exact k z Hk3 H3 R3 ((((s1.trans s1').trans s2).trans s2').trans s3) o3
theorem ve_op {op : Operator} (ho : OpR X (binaryOp op) r) (hg : OpD X.K r g) (ha : VE X a ma) (hb : VE X b mb) : VE X (.BinOp a op b pos) (mOp g ma mb) := (pe_op ho ha hb).imp fun _ _ _ => op_run hg
theorem ve_cmp {op : CmpOp} (ho : OpR X (compareOp op) r) (hg : OpD X.K r g) (ha : VE X a ma) (hb : VE X b mb) (hm : behindInMarks op b = false) : VE X (.Compare a [op] [b] pos) (mOp g ma mb) := (pe_cmpR ho ha hb hm).imp fun _ _ _ => op_run hg
theorem ve_ix (hi : IxR X r) (hg : OpD X.K r g) (ha : VE X a ma) (hb : VE X b mb) (hs : PlainIx b) : VE X (.Subscript a b pos) (mOp g ma mb) := (pe_ix hi ha hb hs).imp fun _ _ _ => op_run hg
def mTest (m : ME) : MT := fun env => (m env).bind fun p => match p.1 with
  | .dat (.bool b) => some (b, p.2)
  | _ => none
theorem test_run {m : ME} {σ : St} {H : Hp} {Q : Bool → Hp → Prop} (h : tT K (mTest m) σ H Q) : tE K m σ H fun x H' => ∃ k, x = .bl k ∧ Q k H' := by
  obtain ⟨B, env, Hk, b, env', R, hm, k⟩ := h
  obtain ⟨⟨x, e1⟩, h1, hm⟩ := Option.bind_eq_some_iff.mp hm
  refine ⟨B, env, Hk, x, e1, R, h1, fun v Hk1 H1 R1 s1 o1 => ?_⟩
  cases x with
  | new c => cases hm
  | slt i => cases hm
  | pv p => cases hm
  | dat d =>
    cases d with
    | bool b' =>
      cases hm
      cases o1
      exact ⟨b, rfl, k Hk1 H1 R1 s1⟩
    | _ => cases hm
theorem vt_cmp {op : CmpOp} (ho : OpR X (compareOp op) r) (hg : OpD X.K r g) (ha : VE X a ma) (hb : VE X b mb) (hm : behindInMarks op b = false) : VT X (.Compare a [op] [b] pos) (mTest (mOp g ma mb)) :=
  (pt_cmpR ho ha hb hm).imp fun _ _ _ h => op_run hg (test_run h)
theorem vt_val {m : ME} (h : VE X a m) (he : ∀ whole, isTrue a X.env whole = (do let v ← whole; standAt a.pos; holding [v] (truthy v)) := by intro _; rfl) : VT X a (mTest m) :=
  (pt_val h he).imp fun _ _ _ h => test_run h
end
def UnD (K : PySem.W.Frag) (r : V → Hp → VK → Prop) (g : PyData → Option Res) : Prop := ∀ (Hk H : Hp) (x : V) (dx : PyData) (res : Res) (Q : VK), Same Hk H → View K Hk H x dx → g dx = some res → (∀ v H', Out K Hk H res v H' → Q v H') → r x H Q
def mUn (g : PyData → Option Res) (ma : ME) : ME := fun env => (ma env).bind fun p => (rdv p.2 (stab p.1)).bind fun dx => (g dx).map fun r => (r, p.2)
section
variable {X : Cx} {K : PySem.W.Frag} {g : PyData → Option Res} {r : V → Hp → VK → Prop} {ma mb : ME} {t u : MT} {a b c : Expr} {rest : List Expr} {pos : Pos}
theorem un_run (hg : UnD K r g) {σ : St} {H : Hp} {Q : VK} (h : tE K (mUn g ma) σ H Q) : tUn r (tE K ma) σ H Q := by
  obtain ⟨B, env, Hk, res, env', R, hm, k⟩ := h
  obtain ⟨⟨x, e1⟩, h1, hm⟩ := Option.bind_eq_some_iff.mp hm
  obtain ⟨dx, h3, hm⟩ := Option.bind_eq_some_iff.mp hm
  obtain ⟨res', h5, hm⟩ := Option.map_eq_some_iff.mp hm
  cases hm
  refine ⟨B, env, Hk, x, e1, R, h1, fun v Hk1 H1 R1 s1 o1 => ?_⟩
  obtain ⟨Hk1', R1', s1', o1'⟩ := R1.stab o1
  refine hg Hk1' H1 v dx res Q R1'.ex (R1'.view o1' h3) h5 fun z H3 out => ?_
  obtain ⟨Hk3, R3, s3, o3⟩ := R1'.out out
  exact k z Hk3 H3 R3 ((s1.trans s1').trans s3) o3
theorem ve_un {op : UnaryOp} (ho : UnR X (unaryOp op) r) (hg : UnD X.K r g) (ha : VE X a ma) : VE X (.UnaryOp op a pos) (mUn g ma) := (pe_un ho ha).imp fun _ _ _ => un_run hg
def mAnd (t u : MT) : MT := fun env => (t env).bind fun p => if p.1 = true then u p.2 else some (false, p.2)
def mOr (t u : MT) : MT := fun env => (t env).bind fun p => if p.1 = true then some (true, p.2) else u p.2
def mNot (t : MT) : MT := fun env => (t env).map fun p => (!p.1, p.2)
theorem and_run {σ : St} {H : Hp} {Q : Bool → Hp → Prop} (h : tT K (mAnd t u) σ H Q) : tAnd (tT K t) (tT K u) σ H Q := by
  obtain ⟨B, env, Hk, b, env', R, hm, k⟩ := h
  obtain ⟨⟨c, e1⟩, h1, hm⟩ := Option.bind_eq_some_iff.mp hm
  refine ⟨B, env, Hk, c, e1, R, h1, fun Hk1 H1 R1 s1 => ?_⟩
  cases c with
  | true => exact ⟨B, e1, Hk1, b, env', R1, hm, fun Hk2 H2 R2 s2 => k Hk2 H2 R2 (s1.trans s2)⟩
  | false =>
    cases hm
    exact k Hk1 H1 R1 s1
theorem or_run {σ : St} {H : Hp} {Q : Bool → Hp → Prop} (h : tT K (mOr t u) σ H Q) : tOr (tT K t) (tT K u) σ H Q := by
  obtain ⟨B, env, Hk, b, env', R, hm, k⟩ := h
  obtain ⟨⟨c, e1⟩, h1, hm⟩ := Option.bind_eq_some_iff.mp hm
  refine ⟨B, env, Hk, c, e1, R, h1, fun Hk1 H1 R1 s1 => ?_⟩
  cases c with
  | false => exact ⟨B, e1, Hk1, b, env', R1, hm, fun Hk2 H2 R2 s2 => k Hk2 H2 R2 (s1.trans s2)⟩
  | true =>
    cases hm
    exact k Hk1 H1 R1 s1
theorem not_run {σ : St} {H : Hp} {Q : Bool → Hp → Prop} (h : tT K (mNot t) σ H Q) : tNot (tT K t) σ H Q := by
  obtain ⟨B, env, Hk, b, env', R, hm, k⟩ := h
  obtain ⟨⟨c, e1⟩, h1, hm⟩ := Option.map_eq_some_iff.mp hm
  cases hm
  exact ⟨B, env, Hk, c, e1, R, h1, k⟩
theorem vw_and1 (ha : VT X a t) : VW X (.BoolOp .And [a] pos) t := pw_and1 ha
theorem vw_or1 (ha : VT X a t) : VW X (.BoolOp .Or [a] pos) t := pw_or1 ha
theorem vw_and (ha : VT X a t) (hb : VW X (.BoolOp .And (b :: rest) pos) u) : VW X (.BoolOp .And (a :: b :: rest) pos) (mAnd t u) := (pw_and ha hb).imp fun _ _ _ => and_run
theorem vw_or (ha : VT X a t) (hb : VW X (.BoolOp .Or (b :: rest) pos) u) : VW X (.BoolOp .Or (a :: b :: rest) pos) (mOr t u) := (pw_or ha hb).imp fun _ _ _ => or_run
theorem vt_w {e : Expr} (h : VW X e t) : VT X e t := PW.pt h
theorem vt_not (ha : VT X a t) : VT X (.UnaryOp .Not a pos) (mNot t) := (pt_not ha).imp fun _ _ _ => not_run
def mAndV (ma mb : ME) : ME := fun env => (ma env).bind fun p => match p.1 with
  | .dat (.bool true) => mb p.2
  | .dat (.bool false) => some (.dat (.bool false), p.2)
  | _ => none
def mNotV (ma : ME) : ME := fun env => (ma env).bind fun p => match p.1 with
  | .dat (.bool b) => some (.dat (.bool (!b)), p.2)
  | _ => none
theorem andV_run {σ : St} {H : Hp} {Q : VK} (h : tE K (mAndV ma mb) σ H Q) : tAndV (tE K ma) (tE K mb) σ H Q := by
  obtain ⟨B, env, Hk, res, env', R, hm, k⟩ := h
  obtain ⟨⟨x, e1⟩, h1, hm⟩ := Option.bind_eq_some_iff.mp hm
  refine ⟨B, env, Hk, x, e1, R, h1, fun v Hk1 H1 R1 s1 o1 => ?_⟩
  cases x with
  | new c => cases hm
  | slt i => cases hm
  | pv p => cases hm
  | dat d =>
    cases d with
    | bool b =>
      cases o1
      refine ⟨b, rfl, ?_⟩
      cases b with
      | true => exact ⟨B, e1, Hk1, res, env', R1, hm, fun v Hk2 H2 R2 s2 o2 => k v Hk2 H2 R2 (s1.trans s2) o2⟩
      | false =>
        cases hm
        exact k _ Hk1 H1 R1 s1 (.bl false)
    | _ => cases hm
theorem notV_run {σ : St} {H : Hp} {Q : VK} (h : tE K (mNotV ma) σ H Q) : tNotV (tE K ma) σ H Q := by
  obtain ⟨B, env, Hk, res, env', R, hm, k⟩ := h
  obtain ⟨⟨x, e1⟩, h1, hm⟩ := Option.bind_eq_some_iff.mp hm
  refine ⟨B, env, Hk, x, e1, R, h1, fun v Hk1 H1 R1 s1 o1 => ?_⟩
  cases x with
  | new c => cases hm
  | slt i => cases hm
  | pv p => cases hm
  | dat d =>
    cases d with
    | bool b =>
      cases o1
      cases hm
      exact ⟨b, rfl, k _ Hk1 H1 R1 s1 (.bl _)⟩
    | _ => cases hm
theorem ve_one {op} (h : VE X a ma) : VE X (.BoolOp op [a] pos) ma := pe_one h
theorem ve_and (ha : VE X a ma) (hb : VE X (.BoolOp .And (b :: rest) pos) mb) : VE X (.BoolOp .And (a :: b :: rest) pos) (mAndV ma mb) := (pe_and ha hb).imp fun _ _ _ => andV_run
theorem ve_not (ha : VE X a ma) : VE X (.UnaryOp .Not a pos) (mNotV ma) := (pe_not ha).imp fun _ _ _ => notV_run
def mIf (t : MT) (ma mb : ME) : ME := fun env => (t env).bind fun p => if p.1 = true then ma p.2 else mb p.2
theorem if_run {σ : St} {H : Hp} {Q : VK} (h : tE K (mIf t ma mb) σ H Q) : tIf (tT K t) (tE K ma) (tE K mb) σ H Q := by
  obtain ⟨B, env, Hk, res, env', R, hm, k⟩ := h
  obtain ⟨⟨c, e1⟩, h1, hm⟩ := Option.bind_eq_some_iff.mp hm
  refine ⟨B, env, Hk, c, e1, R, h1, fun Hk1 H1 R1 s1 => ?_⟩
  cases c with
  | true => exact ⟨B, e1, Hk1, res, env', R1, hm, fun v Hk2 H2 R2 s2 o2 => k v Hk2 H2 R2 (s1.trans s2) o2⟩
  | false => exact ⟨B, e1, Hk1, res, env', R1, hm, fun v Hk2 H2 R2 s2 o2 => k v Hk2 H2 R2 (s1.trans s2) o2⟩
theorem ve_if (hc : VT X c t) (ha : VE X a ma) (hb : VE X b mb) : VE X (.IfExp c a b pos) (mIf t ma mb) := (pe_ifExp hc ha hb).imp fun _ _ _ => if_run
end
def mNil : MA := fun env => some ([], env)
def mCons (m : ME) (ms : MA) : MA := fun env => (m env).bind fun p => (ms p.2).map fun q => (stab p.1 :: q.1, q.2)
section
variable {X : Cx} {K : PySem.W.Frag} {m : ME} {ms : MA} {e : Expr} {es : List Expr} {pos : Pos}
theorem nil_run {σ : St} {H : Hp} {Q : List V → Hp → Prop} (h : tA K mNil σ H Q) : tNil σ H Q := by
  obtain ⟨B, env, Hk, rs, env', R, hm, k⟩ := h
  cases hm
  exact k [] Hk H R (.refl _) .nil
theorem cons_run {σ : St} {H : Hp} {Q : List V → Hp → Prop} (h : tA K (mCons m ms) σ H Q) : tCons (tE K m) (tA K ms) σ H Q := by
  obtain ⟨B, env, Hk, rs, env', R, hm, k⟩ := h
  obtain ⟨⟨x, e1⟩, h1, hm⟩ := Option.bind_eq_some_iff.mp hm
  obtain ⟨⟨xs, e2⟩, h2, hm⟩ := Option.map_eq_some_iff.mp hm
  cases hm
  refine ⟨B, env, Hk, x, e1, R, h1, fun v Hk1 H1 R1 s1 o1 => ?_⟩
  obtain ⟨Hk1', R1', s1', o1'⟩ := R1.stab o1
  refine ⟨B, e1, Hk1', xs, e2, R1', h2, fun vs Hk2 H2 R2 s2 o2 => ?_⟩
  exact k _ Hk2 H2 R2 ((s1.trans s1').trans s2) (.cons (o1'.mono s2) o2)
theorem va_nil : VA X [] mNil := pa_nil.imp fun _ _ _ => nil_run
theorem va_cons (ha : VE X e m) (hr : VA X es ms) (hs : starEach (e :: es) X.env = (false, eval e X.env) :: starEach es X.env := by rfl) : VA X (e :: es) (mCons m ms) := (pa_cons ha hr hs).imp fun _ _ _ => cons_run
def dats : List Res → Option (List PyData)
  | [] => some []
  | .dat d :: rs => (dats rs).map (d :: ·)
  | _ :: _ => none
theorem RsAll.dats {σ : St} {Hk : Kn} : ∀ {rs : List Res} {vs : List V} {ds : List PyData}, RsAll K σ Hk rs vs → Cm.dats rs = some ds → DvAll K Hk vs ds
  | _, _, _, .nil, h => by
    cases h
    exact .nil
  | .dat d :: rs, _, ds, .cons h1 h2, h => by
    obtain ⟨ds', e1, e2⟩ := Option.map_eq_some_iff.mp h
    subst e2
    exact .cons h1 (RsAll.dats h2 e1)
  | .slt i :: rs, _, ds, .cons h1 h2, h => by cases h
  | .new c :: rs, _, ds, .cons h1 h2, h => by cases h
def mLst (ms : MA) : ME := fun env => (ms env).bind fun p => (dats p.1).bind fun ds => if ds.length ≤ 100000 then some (.new (.lst ds), p.2) else none
def mTup (ms : MA) : ME := fun env => (ms env).bind fun p => (dats p.1).bind fun ds => if ds.length ≤ 100000 then some (.dat (.tuple ds), p.2) else none
theorem sz_of {n : Nat} (h : n ≤ 100000) : n ≤ sizeLine := Nat.le_trans h (by decide)
theorem lst_run {σ : St} {H : Hp} {Q : VK} (h : tE K (mLst ms) σ H Q) : tLst (tA K ms) σ H Q := by
  obtain ⟨B, env, Hk, res, env', R, hm, k⟩ := h
  obtain ⟨⟨rs, e1⟩, h1, hm⟩ := Option.bind_eq_some_iff.mp hm
  obtain ⟨ds, h2, hm⟩ := Option.bind_eq_some_iff.mp hm
  by_cases hl : ds.length ≤ 100000
  · rw [if_pos hl] at hm
    cases hm
    refine ⟨B, env, Hk, rs, e1, R, h1, fun vs Hk1 H1 R1 s1 o1 => ?_⟩
    have da := o1.dats h2
    refine ⟨by rw [da.len]; exact sz_of hl, fun p hp => ?_⟩
    obtain ⟨Hk2, R2, s2, o2⟩ := R1.out (r := .new (.lst ds)) ⟨p, vs, rfl, hp, rfl, da⟩
    exact k _ Hk2 _ R2 (s1.trans s2) o2
  · rw [if_neg hl] at hm
    cases hm
theorem tup_run {σ : St} {H : Hp} {Q : VK} (h : tE K (mTup ms) σ H Q) : tTup (tA K ms) σ H Q := by
  obtain ⟨B, env, Hk, res, env', R, hm, k⟩ := h
  obtain ⟨⟨rs, e1⟩, h1, hm⟩ := Option.bind_eq_some_iff.mp hm
  obtain ⟨ds, h2, hm⟩ := Option.bind_eq_some_iff.mp hm
  by_cases hl : ds.length ≤ 100000
  · rw [if_pos hl] at hm
    cases hm
    refine ⟨B, env, Hk, rs, e1, R, h1, fun vs Hk1 H1 R1 s1 o1 => ?_⟩
    have da := o1.dats h2
    refine ⟨by rw [da.len]; exact sz_of hl, fun p hp => ?_⟩
    obtain ⟨Hk2, R2, s2, o2⟩ := R1.out (r := .dat (.tuple ds)) (.inr ⟨p, vs, ds, rfl, rfl, hp, rfl, da⟩)
    exact k _ Hk2 _ R2 (s1.trans s2) o2
  · rw [if_neg hl] at hm
    cases hm
theorem ve_lst (h : VA X es ms) : VE X (.List es pos) (mLst ms) := (pe_lst h).imp fun _ _ _ => lst_run
theorem ve_tup {x1} (h : VA X es ms) : VE X (.Tuple es x1 pos) (mTup ms) := (pe_tup h).imp fun _ _ _ => tup_run
end
def rdAll (env : Sl) : List Res → Option (List PyData)
  | [] => some []
  | r :: rs => (rdv env r).bind fun d => (rdAll env rs).map (d :: ·)
section
variable {X : Cx} {K : PySem.W.Frag} {m : ME} {ms : MA} {e o : Expr} {es : List Expr} {pos : Pos}
theorem Rel.views {B : Fb} {env : Sl} {σ : St} {Hk : Kn} {H : Hp} (R : Rel K B env σ Hk H) : ∀ {rs : List Res} {vs : List V} {ds : List PyData}, RsAll K σ Hk rs vs → rdAll env rs = some ds → ViewAll K Hk H vs ds
  | _, _, _, .nil, h => by
    cases h
    exact .nil
  | _, _, ds, .cons h1 h2, h => by
    obtain ⟨d, e1, h⟩ := Option.bind_eq_some_iff.mp h
    obtain ⟨ds', e2, e3⟩ := Option.map_eq_some_iff.mp h
    subst e3
    exact .cons (R.view h1 e1) (Rel.views R h2 e2)
def CallD (K : PySem.W.Frag) (r : List V → Hp → VK → Prop) (g : List PyData → Option Res) : Prop := ∀ (Hk H : Hp) (vs : List V) (ds : List PyData) (res : Res) (Q : VK), Same Hk H → ViewAll K Hk H vs ds → g ds = some res → (∀ v H', Out K Hk H res v H' → Q v H') → r vs H Q
def mCB (g : List PyData → Option Res) (ms : MA) : ME := fun env => (ms env).bind fun p => (rdAll p.2 p.1).bind fun ds => (g ds).map fun r => (r, p.2)
theorem cb_run {r : List V → Hp → VK → Prop} {g : List PyData → Option Res} (hg : CallD K r g) {σ : St} {H : Hp} {Q : VK} (h : tE K (mCB g ms) σ H Q) : tCB r (tA K ms) σ H Q := by
  obtain ⟨B, env, Hk, res, env', R, hm, k⟩ := h
  obtain ⟨⟨rs, e1⟩, h1, hm⟩ := Option.bind_eq_some_iff.mp hm
  obtain ⟨ds, h2, hm⟩ := Option.bind_eq_some_iff.mp hm
  obtain ⟨res', h5, hm⟩ := Option.map_eq_some_iff.mp hm
  cases hm
  refine ⟨B, env, Hk, rs, e1, R, h1, fun vs Hk1 H1 R1 s1 o1 => ?_⟩
  refine hg Hk1 H1 vs ds res Q R1.ex (R1.views o1 h2) h5 fun z H3 out => ?_
  obtain ⟨Hk3, R3, s3, o3⟩ := R1.out out
  exact k z Hk3 H3 R3 (s1.trans s3) o3
theorem ve_callB {x : Str} {p : Pos} {id : String} {r : List V → Hp → VK → Prop} {g : List PyData → Option Res} (hc : CallR X (.builtin id) r) (hG : CallD X.K r g) (hg : Gl X x) (hm : X.mg x = none) (hv : bootBuiltins x = some (.builtin id)) (ha : VA X (e :: es) ms) (hn : x ≠ "__name__" := by decide) (hdb : (x == ("__debug__" : Str)) = false := by decide)
    (he : starEach (e :: es) X.env = (false, eval e X.env) :: starEach es X.env := by rfl) (hpl : (backTo pos (starEach es X.env)).any (·.1) = false := by rfl) : VE X (.Call (.Name x p) (e :: es) [] pos) (mCB g ms) :=
  (pe_callB hc hg hm hv ha hn hdb he hpl).imp fun _ _ _ => cb_run hG
theorem ve_callTy {x : Str} {p : Pos} {T : String} {r : List V → Hp → VK → Prop} {g : List PyData → Option Res} (hc : CallR X (.type T) r) (hG : CallD X.K r g) (hg : Gl X x) (hm : X.mg x = none) (hv : bootBuiltins x = some (.type T)) (ha : VA X (e :: es) ms) (hn : x ≠ "__name__" := by decide) (hdb : (x == ("__debug__" : Str)) = false := by decide)
    (he : starEach (e :: es) X.env = (false, eval e X.env) :: starEach es X.env := by rfl) (hpl : (backTo pos (starEach es X.env)).any (·.1) = false := by rfl) : VE X (.Call (.Name x p) (e :: es) [] pos) (mCB g ms) :=
  (pe_callTy hc hg hm hv ha hn hdb he hpl).imp fun _ _ _ => cb_run hG
def tyD : String → PyData → Bool
  | T, .str _ => T == "str"
  | T, .int _ => T == "int"
  | T, .list _ => T == "list"
  | _, _ => false
theorem tyD_V {Hk : Kn} {H : Hp} {T : String} {v : V} {d : PyData} (e : Same Hk H) (h : View K Hk H v d) (t : tyD T d = true) : tyV K T v H := by
  cases d with
  | str x => rw [h.str]; exact (beq_iff_eq.mp t)
  | int x => rw [h.int]; exact (beq_iff_eq.mp t)
  | list ds =>
    obtain ⟨a, vs, rfl, h1, h2⟩ := h.list e
    exact .inl ⟨beq_iff_eq.mp t, vs, SqL.of h1⟩
  | none => cases t
  | bool b => cases t
  | tuple b => cases t
  | dict b => cases t
def MtD (K : PySem.W.Frag) (r : V → List V → Hp → VK → Prop) (g : PyData → List PyData → Option Res) : Prop := ∀ (Hk H : Hp) (x : V) (vs : List V) (d : PyData) (ds : List PyData) (res : Res) (Q : VK), Same Hk H → View K Hk H x d → ViewAll K Hk H vs ds → g d ds = some res → (∀ v H', Out K Hk H res v H' → Q v H') → r x vs H Q
def mBM (T : String) (g : PyData → List PyData → Option Res) (mo : ME) (ms : MA) : ME := fun env => (mo env).bind fun o => (rdv o.2 (stab o.1)).bind fun d0 => if tyD T d0 = true then (ms o.2).bind fun p => (rdv p.2 (stab o.1)).bind fun d => (rdAll p.2 p.1).bind fun ds => (g d ds).map fun r => (r, p.2) else none
theorem bm_run {T : String} {r : V → List V → Hp → VK → Prop} {g : PyData → List PyData → Option Res} (hg : MtD K r g) {σ : St} {H : Hp} {Q : VK} (h : tE K (mBM T g m ms) σ H Q) : tBM K T r (tE K m) (tA K ms) σ H Q := by
  obtain ⟨B, env, Hk, res, env', R, hm, k⟩ := h
  obtain ⟨⟨x, e0⟩, h0, hm⟩ := Option.bind_eq_some_iff.mp hm
  obtain ⟨d0, g0, hm⟩ := Option.bind_eq_some_iff.mp hm
  by_cases ht : tyD T d0 = true
  · rw [if_pos ht] at hm
    obtain ⟨⟨rs, e1⟩, h1, hm⟩ := Option.bind_eq_some_iff.mp hm
    obtain ⟨d, h3, hm⟩ := Option.bind_eq_some_iff.mp hm
    obtain ⟨ds, h2, hm⟩ := Option.bind_eq_some_iff.mp hm
    obtain ⟨res', h5, hm⟩ := Option.map_eq_some_iff.mp hm
    cases hm
    refine ⟨B, env, Hk, x, e0, R, h0, fun v Hk1 H1 R1 s1 o1 => ?_⟩
    obtain ⟨Hk1', R1', s1', o1'⟩ := R1.stab o1
    refine ⟨tyD_V R1'.ex (R1'.view o1' g0) ht, ?_⟩
    refine ⟨B, e0, Hk1', rs, e1, R1', h1, fun vs Hk2 H2 R2 s2 o2 => ?_⟩
    refine hg Hk2 H2 v vs d ds res Q R2.ex (R2.view (o1'.mono s2) h3) (R2.views o2 h2) h5 fun z H3 out => ?_
    obtain ⟨Hk3, R3, s3, o3⟩ := R2.out out
    exact k z Hk3 H3 R3 (((s1.trans s1').trans s2).trans s3) o3
  · rw [if_neg ht] at hm
    cases hm
end
def mSkip : MS := fun env => some (.nx, env)
def mSeq (m n : MS) : MS := fun env => (m env).bind fun p => match p.1 with
  | .nx => n p.2
  | f => some (f, p.2)
def mDrop (m : ME) : MS := fun env => (m env).map fun p => (.nx, p.2)
def mIfS (t : MT) (a b : MS) : MS := fun env => (t env).bind fun p => if p.1 = true then a p.2 else b p.2
def putRes (i : Nat) (p : Res × Sl) : Option Sl := match p.1 with
  | .dat d => some (p.2.set i (.val d))
  | .new c => some (p.2.set i (.own c))
  | .slt j => (frz (.slt j, p.2)).bind fun q => match q.1 with
    | .dat d => some (q.2.set i (.val d))
    | _ => none
  | .pv q => some (p.2.set i (.pv q))
def mSet (i : Nat) (m : ME) : MS := fun env => (m env).bind fun p => (putRes i p).map fun e => (.nx, e)
section
variable {X : Cx} {K : PySem.W.Frag} {m n : MS} {me : ME} {t : MT} {st : Stmt} {rest as bs : List Stmt} {e c : Expr} {pos : Pos}
theorem skip_run {W : WX} {D : Ends} {σ : St} {H : Hp} (h : tS K W mSkip D σ H) : tNext D σ H := by
  obtain ⟨B, env, Hk, f, env', R, hm, k⟩ := h
  cases hm
  exact k σ Hk H R (.refl _)
theorem seq_run {W : WX} {D : Ends} {σ : St} {H : Hp} (h : tS K W (mSeq m n) D σ H) : tSeq (tS K W m) (tS K W n) D σ H := by
  obtain ⟨B, env, Hk, f, env', R, hm, k⟩ := h
  obtain ⟨⟨f1, e1⟩, h1, hm⟩ := Option.bind_eq_some_iff.mp hm
  refine ⟨B, env, Hk, f1, e1, R, h1, fun σ1 Hk1 H1 R1 s1 => ?_⟩
  cases f1 with
  | nx => exact ⟨B, e1, Hk1, f, env', R1, hm, fun σ2 Hk2 H2 R2 s2 => k σ2 Hk2 H2 R2 (s1.trans s2)⟩
  | bk => cases hm; exact k σ1 Hk1 H1 R1 s1
  | ct => cases hm; exact k σ1 Hk1 H1 R1 s1
  | rt r => cases hm; exact k σ1 Hk1 H1 R1 s1
  | ex C fs => cases hm; exact k σ1 Hk1 H1 R1 s1
theorem vs_nil : VSs X [] mSkip := fun W _ => pss_nil.imp fun _ _ _ => skip_run
theorem vs_cons (h1 : VS X st m) (h2 : VSs X rest n) : VSs X (st :: rest) (mSeq m n) := fun W t => (pss_cons (h1 W t) (h2 W t)).imp fun _ _ _ => seq_run
theorem vs_one (h1 : VS X st m) : VSs X [st] m := fun W t => pss_one (h1 W t)
def mCont : MS := fun env => some (.ct, env)
theorem vs_continue : VS X (.Continue pos) mCont := fun W _ => ps_continue.imp fun _ _ _ h => by
  obtain ⟨B, env, Hk, f, env', R, hm, k⟩ := h
  cases hm
  exact k _ Hk _ R (.refl _)
theorem drop_run {W : WX} {D : Ends} {σ : St} {H : Hp} (h : tS K W (mDrop me) D σ H) : tDrop (tE K me) D σ H := by
  obtain ⟨B, env, Hk, f, env', R, hm, k⟩ := h
  obtain ⟨⟨r1, e1⟩, h1, hm⟩ := Option.map_eq_some_iff.mp hm
  cases hm
  exact ⟨B, env, Hk, r1, e1, R, h1, fun v Hk1 H1 R1 s1 o1 => k σ Hk1 H1 R1 s1⟩
theorem vs_expr (he : VE X e me) (hs : swapsWith e none pos.line X.env = pure false := by rfl) : VS X (.Expr e pos) (mDrop me) := fun W _ => (ps_expr he hs).imp fun _ _ _ => drop_run
theorem ifS_run {W : WX} {D : Ends} {σ : St} {H : Hp} (h : tS K W (mIfS t m n) D σ H) : tIfS (tT K t) (tS K W m) (tS K W n) D σ H := by
  obtain ⟨B, env, Hk, f, env', R, hm, k⟩ := h
  obtain ⟨⟨b, e1⟩, h1, hm⟩ := Option.bind_eq_some_iff.mp hm
  refine ⟨B, env, Hk, b, e1, R, h1, fun Hk1 H1 R1 s1 => ?_⟩
  cases b with
  | true => exact ⟨B, e1, Hk1, f, env', R1, hm, fun σ2 Hk2 H2 R2 s2 => k σ2 Hk2 H2 R2 (s1.trans s2)⟩
  | false => exact ⟨B, e1, Hk1, f, env', R1, hm, fun σ2 Hk2 H2 R2 s2 => k σ2 Hk2 H2 R2 (s1.trans s2)⟩
theorem vs_if (hc : VT X c t) (ha : VSs X as m) (hb : VSs X bs n) : VS X (.If c as bs pos) (mIfS t m n) := fun W t => (ps_if hc (ha W t) (hb W t)).imp fun _ _ _ => ifS_run
theorem Rel.put {B : Fb} {env env' : Sl} {σ : St} {Hk : Kn} {H : Hp} {r : Res} {v : V} {i : Nat} (R : Rel K B env σ Hk H) (o : ResOk K B env σ Hk H r v) (h : putRes i (r, env) = some env') : ∃ Hk' : Kn, KSame Hk Hk' ∧ Rel K B env' (σ.set i (some v)) Hk' H := by
  cases r with
  | dat d =>
    cases h
    exact ⟨Hk, .refl _, R.setVal o⟩
  | new c =>
    cases h
    obtain ⟨a, rfl, h1, h2, h3, h5, h4⟩ := o
    exact ⟨Hk, .refl _, R.setOwn h1 h2 h3 h5 h4⟩
  | pv p =>
    cases h
    exact ⟨Hk, .refl _, R.setPv o⟩
  | slt j =>
    obtain ⟨⟨r', e'⟩, h1, h2⟩ := Option.bind_eq_some_iff.mp h
    obtain ⟨Hk', d, rfl, R', s, z⟩ := R.frz o h1
    cases h2
    exact ⟨Hk', s, R'.setVal z⟩
theorem set_run {i : Nat} {W : WX} {D : Ends} {σ : St} {H : Hp} (h : tS K W (mSet i me) D σ H) : tAsg (tE K me) (gName i) D σ H := by
  obtain ⟨B, env, Hk, f, env', R, hm, k⟩ := h
  obtain ⟨⟨r1, e1⟩, h1, hm⟩ := Option.bind_eq_some_iff.mp hm
  obtain ⟨e2, h2, hm⟩ := Option.map_eq_some_iff.mp hm
  cases hm
  refine ⟨B, env, Hk, r1, e1, R, h1, fun v Hk1 H1 R1 s1 o1 => ?_⟩
  obtain ⟨Hk2, s2, R2⟩ := R1.put o1 h2
  exact k _ Hk2 H1 R2 (s1.trans s2)
theorem vs_set {i : Nat} {x : Str} {pos' : Pos} (hN : X.N.Nodup) (he : VE X e me) (hi : X.N[i]? = some x := by rfl) (hx : Loc X.env.scope x := by first | exact Or.inl rfl | exact Or.inr rfl) (hs : swapsWith e (some (.Name x pos')) pos.line X.env = pure false := by rfl) (hf : X.fn x = true ∨ X.env.scope.names.lookup x = some .local := by first | exact .inl rfl | exact .inr rfl | assumption) :
    VS X (.Assign [.Name x pos'] e pos) (mSet i me) := fun W _ => (ps_set hN hi hx he hs hf).imp fun _ _ _ => set_run
end
section
variable {K : PySem.W.Frag} {B : Fb} {env : Sl} {σ : St} {Hk : Kn} {H : Hp} {p : Addr} {o : HO}
theorem Rel.unguard (R : Rel K (B.guard p o) env σ Hk H) (h0 : B.H0 p = none) (hK : B.K0 p = none) (hO : ¬ B.io p) : Rel K B env σ Hk H ∧ H p = some o ∧ Hk p = none ∧ (∀ (n : Nat), Hk.P n ≠ some p) ∧ ∀ (j : Nat) s, env[j]? = some s → s.mut → σ[j]? ≠ some (some (V.ref p)) := by
  have hp : H p = some o := R.kp p o (show upd B.H0 p o p = some o from upd_same) hO
  have hk : Hk p = none := by
    cases q : Hk p with
    | none => rfl
    | some u =>
      have z := R.fr p (ne_none q) hK
      rw [show (B.guard p o).H0 p = some o from upd_same] at z
      cases z
  have back : ∀ a, (B.guard p o).H0 a = none → a ≠ p ∧ B.H0 a = none := fun a z => by
    have z : upd B.H0 p o a = none := z
    by_cases e : a = p
    · rw [e, upd_same] at z
      cases z
    · rw [upd_ne e] at z
      exact ⟨e, z⟩
  have hPp : ∀ (n : Nat), Hk.P n ≠ some p := fun n e => by
    rcases (R.pin n p e).2 hk with q | q
    · exact (back p q).1 rfl
    · exact hO q
  refine ⟨⟨R.ex, R.kn, fun a h1 h2 => (back a (R.fr a h1 h2)).2, fun a u h1 h2 => ?_, R.oin, fun a ha z => ?_, R.len, fun i s hi => ?_, R.sep, fun M h => let S := R.sok M h; ⟨S.cel, S.inj, S.top⟩, fun n a h => ⟨(R.pin n a h).1, fun z => ((R.pin n a h).2 z).imp (fun q => (back a q).2) id⟩, R.psep⟩, hp, hk, hPp, fun j s hj hm z => ?_⟩
  · have ne : a ≠ p := fun e => by rw [e, h0] at h1; cases h1
    exact R.kp a u (by show upd B.H0 p o a = some u; rw [upd_ne ne]; exact h1) h2
  · have ne : a ≠ p := fun e => hO (by rw [← e]; exact ha)
    exact R.o0 a ha (by show upd B.H0 p o a = none; rw [upd_ne ne]; exact z)
  · obtain ⟨u, h1, h2⟩ := R.slot i s hi
    refine ⟨u, h1, ?_⟩
    cases s with
    | no => trivial
    | val d => exact h2
    | scr d => exact h2
    | pin a => exact h2
    | pv p => exact h2
    | sto M => trivial
    | io k c => exact h2
    | own c =>
      obtain ⟨a, e1, q1, q2, q3⟩ := h2
      exact ⟨a, e1, q1, (back a q2).2, q3⟩
  · obtain ⟨u, h1, h2⟩ := R.slot j s hj
    rw [z] at h1
    cases h1
    cases s with
    | no => cases hm
    | val d => cases hm
    | scr d => cases hm
    | pin a => cases hm
    | pv p => cases hm
    | sto M => cases hm
    | io k c =>
      obtain ⟨a, e1, q1, q2, q3⟩ := h2
      cases e1
      exact hO (.inl ⟨k, q2⟩)
    | own c =>
      obtain ⟨a, e1, q1, q2, q3⟩ := h2
      cases e1
      exact (back _ q2).1 rfl
theorem Rel.free0 (R : Rel K B env σ Hk H) (h : Hk p = none) : B.K0 p = none := R.kn.free h
theorem Rel.nO (R : Rel K B env σ Hk H) (h : B.H0 p = none) : ¬ B.io p := fun z => R.o0 p z h
theorem Rel.wait (R : Rel K B env σ Hk H) {r : Res} {v : V} (o : ResOk K B env σ Hk H r v) :
    ∃ B', Rel K B' env σ Hk H ∧ ∀ {env' : Sl} {Hk' : Kn} {H' : Hp}, Rel K B' env' σ Hk' H' → KSame Hk Hk' → Rel K B env' σ Hk' H' ∧ ResOk K B env' σ Hk' H' r v ∧
      ∀ {r' : Res} {v' : V}, ResOk K B' env' σ Hk' H' r' v' → ResOk K B env' σ Hk' H' r' v' ∧ ∀ c c' a, r = .new c → r' = .new c' → v = .ref a → v' ≠ .ref a := by
  have triv : ∀ {env' : Sl} {Hk' : Kn} {H' : Hp} {r' : Res} {v' : V}, (∀ c, r ≠ .new c) → ResOk K B env' σ Hk' H' r' v' → ResOk K B env' σ Hk' H' r' v' ∧ ∀ c c' a, r = .new c → r' = .new c' → v = .ref a → v' ≠ .ref a := fun hr o' => ⟨o', fun c c' a e => absurd e (hr c)⟩
  cases r with
  | dat d => exact ⟨B, R, fun R' s => ⟨R', dv_mono s d v o, triv fun c z => by cases z⟩⟩
  | slt i => exact ⟨B, R, fun R' s => ⟨R', o, triv fun c z => by cases z⟩⟩
  | pv p => exact ⟨B, R, fun R' s => ⟨R', PvOk.mono s o, triv fun c z => by cases z⟩⟩
  | new c =>
    obtain ⟨a, rfl, h1, h2, h3, h5, h4⟩ := o
    obtain ⟨u, hu⟩ := h3.there
    refine ⟨B.guard a u, R.guard hu h1 h2 h5 h4, fun {env' Hk' H'} R' s => ?_⟩
    obtain ⟨R2, q1, q2, q4, q3⟩ := R'.unguard h2 (R.free0 h1) (R.nO h2)
    refine ⟨R2, ⟨a, rfl, q2, h2, h3.mono s fun o z => by rw [hu] at z; rw [← z]; exact q1, q4, q3⟩, fun {r' v'} o' => ?_⟩
    cases r' with
    | dat d => exact ⟨o', fun c c' b _ e => by cases e⟩
    | slt i => exact ⟨o', fun c c' b _ e => by cases e⟩
    | pv p => exact ⟨o', fun c c' b _ e => by cases e⟩
    | new c' =>
      obtain ⟨b, rfl, g1, g2, g3, g5, g4⟩ := o'
      have g2 : upd B.H0 a u b = none := g2
      have ne : b ≠ a := fun e => by rw [e, upd_same] at g2; cases g2
      rw [upd_ne ne] at g2
      refine ⟨⟨b, rfl, g1, g2, g3, g5, g4⟩, fun _ _ x _ _ e1 e2 => ?_⟩
      cases e1
      exact ne (V.ref.inj e2)
end
def frzS : Res × Sl → Option (Res × Sl)
  | (.slt i, e) => frz (.slt i, e)
  | p => some p
def mFrzS (m : ME) : ME := fun env => (m env).bind frzS
def tAU (K : PySem.W.Frag) (m : MA) : TA := fun σ H Q => ∃ B env Hk rs env', Rel K B env σ Hk H ∧ m env = some (rs, env') ∧
  ∀ vs Hk' H', Rel K B env' σ Hk' H' → KSame Hk Hk' → RuAll K B env' σ Hk' H' rs vs → Q vs H'
abbrev VAU (X : Cx) (es : List Expr) (m : MA) : Prop := PA X es (tAU X.K m)
def mConsU (m : ME) (ms : MA) : MA := fun env => (mFrzS m env).bind fun p => (ms p.2).map fun q => (p.1 :: q.1, q.2)
section
variable {X : Cx} {K : PySem.W.Frag} {m : ME} {ms : MA} {e : Expr} {es : List Expr} {pos : Pos}
theorem Rel.frzS {B : Fb} {env env' : Sl} {σ : St} {Hk : Kn} {H : Hp} {r r' : Res} {v : V} (R : Rel K B env σ Hk H) (o : ResOk K B env σ Hk H r v) (h : Cm.frzS (r, env) = some (r', env')) :
    ∃ Hk' : Kn, Rel K B env' σ Hk' H ∧ KSame Hk Hk' ∧ ResOk K B env' σ Hk' H r' v ∧ ∀ i, r' ≠ .slt i := by
  cases r with
  | dat d =>
    cases h
    exact ⟨Hk, R, .refl _, o, fun i z => by cases z⟩
  | new c =>
    cases h
    exact ⟨Hk, R, .refl _, o, fun i z => by cases z⟩
  | pv p =>
    cases h
    exact ⟨Hk, R, .refl _, o, fun i z => by cases z⟩
  | slt i =>
    obtain ⟨Hk', d, rfl, R', s, z⟩ := R.frz o h
    exact ⟨Hk', R', s, z, fun i z => by cases z⟩
theorem RuAll.back {B B' : Fb} {env' : Sl} {σ : St} {Hk' : Kn} {H' : Hp} (f : ∀ {r' : Res} {v' : V}, ResOk K B' env' σ Hk' H' r' v' → ResOk K B env' σ Hk' H' r' v') : ∀ {rs : List Res} {vs : List V}, RuAll K B' env' σ Hk' H' rs vs → RuAll K B env' σ Hk' H' rs vs
  | _, _, .nil => .nil
  | _, _, .cons h1 h2 h3 h4 => .cons (f h1) h2 (RuAll.back f h3) h4
theorem RuAll.get {B : Fb} {env : Sl} {σ : St} {Hk : Kn} {H : Hp} : ∀ {rs : List Res} {vs : List V}, RuAll K B env σ Hk H rs vs → ∀ (j : Nat) r v, rs[j]? = some r → vs[j]? = some v → ResOk K B env σ Hk H r v
  | _, _, .nil, j, r, v, h, _ => by simp at h
  | _, _, .cons h1 _ _ _, 0, r, v, h, h' => by
    simp at h h'
    subst h h'
    exact h1
  | _, _, .cons _ _ h3 _, j + 1, r, v, h, h' => RuAll.get h3 j r v (by simpa using h) (by simpa using h')
theorem nilU_run {σ : St} {H : Hp} {Q : List V → Hp → Prop} (h : tAU K mNil σ H Q) : tNil σ H Q := by
  obtain ⟨B, env, Hk, rs, env', R, hm, k⟩ := h
  cases hm
  exact k [] Hk H R (.refl _) .nil
theorem consU_run {σ : St} {H : Hp} {Q : List V → Hp → Prop} (h : tAU K (mConsU m ms) σ H Q) : tCons (tE K m) (tAU K ms) σ H Q := by
  obtain ⟨B, env, Hk, rs, env', R, hm, k⟩ := h
  obtain ⟨⟨x, e1⟩, h1, hm⟩ := Option.bind_eq_some_iff.mp hm
  obtain ⟨⟨x0, e0⟩, h0, h1⟩ := Option.bind_eq_some_iff.mp h1
  obtain ⟨⟨xs, e2⟩, h2, hm⟩ := Option.map_eq_some_iff.mp hm
  cases hm
  refine ⟨B, env, Hk, x0, e0, R, h0, fun v Hk1 H1 R1 s1 o1 => ?_⟩
  obtain ⟨Hk1', R1', s1', o1', n1⟩ := R1.frzS o1 h1
  obtain ⟨B', R2, back⟩ := R1'.wait o1'
  refine ⟨B', e1, Hk1', xs, e2, R2, h2, fun vs Hk2 H2 R3 s2 o2 => ?_⟩
  obtain ⟨R4, o4, b4⟩ := back R3 s2
  refine k _ Hk2 H2 R4 ((s1.trans s1').trans s2) (.cons o4 n1 (o2.back fun o => (b4 o).1) fun a hna j r' v' hj hj' hnb => ?_)
  obtain ⟨⟨c, rfl⟩, rfl⟩ := hna
  obtain ⟨⟨c', rfl⟩, rfl⟩ := hnb
  exact (b4 (o2.get j _ _ hj hj')).2 c c' a rfl rfl rfl rfl
theorem vau_nil : VAU X [] mNil := pa_nil.imp fun _ _ _ => nilU_run
theorem vau_cons (ha : VE X e m) (hr : VAU X es ms) (hs : starEach (e :: es) X.env = (false, eval e X.env) :: starEach es X.env := by rfl) : VAU X (e :: es) (mConsU m ms) := (pa_cons ha hr hs).imp fun _ _ _ => consU_run
end
def putsRes : List Nat → List Res → Sl → Option Sl
  | [], [], e => some e
  | i :: is, r :: rs, e => (putRes i (r, e)).bind (putsRes is rs)
  | _, _, _ => none
def setAll : St → List Nat → List V → St
  | σ, i :: is, v :: vs => setAll (σ.set i (some v)) is vs
  | σ, _, _ => σ
def mPutU (is : List Nat) (ms : MA) : MS := fun env => (ms env).bind fun p => (putsRes is p.1 p.2).map fun e => (.nx, e)
section
variable {X : Cx} {K : PySem.W.Frag} {ms : MA} {e : Expr} {es : List Expr} {pos : Pos}
theorem RuAll.put {B : Fb} {env env' : Sl} {σ : St} {Hk : Kn} {H : Hp} {i : Nat} {r : Res} {v : V} (o : ResOk K B env σ Hk H r v) (n : ∀ i, r ≠ .slt i) (h : putRes i (r, env) = some env') :
    ∀ {rs : List Res} {vs : List V}, RuAll K B env σ Hk H rs vs → (∀ a, NewAt r v a → ∀ (j : Nat) r' v', rs[j]? = some r' → vs[j]? = some v' → ¬ NewAt r' v' a) → RuAll K B env' (σ.set i (some v)) Hk H rs vs
  | _, _, .nil, _ => .nil
  | r' :: rs, v' :: vs, .cons h1 h2 h3 h4, hn => by
    refine .cons ?_ h2 (RuAll.put o n h h3 fun a ha j r2 v2 e1 e2 => hn a ha (j + 1) r2 v2 (by simpa using e1) (by simpa using e2)) h4
    cases r' with
    | dat d => exact h1
    | pv p => exact h1
    | slt j => exact absurd rfl (h2 j)
    | new c =>
      obtain ⟨a, rfl, q1, q2, q3, q5, q4⟩ := h1
      refine ⟨a, rfl, q1, q2, q3, q5, fun j s hj hm z => ?_⟩
      cases r with
      | slt j => exact absurd rfl (n j)
      | pv p =>
        cases h
        rcases set_get hj with ⟨rfl, rfl⟩ | ⟨ne, hj⟩
        · cases hm
        · rw [List.getElem?_set_ne (fun z => ne z.symm)] at z
          exact q4 j s hj hm z
      | dat d =>
        cases h
        rcases set_get hj with ⟨rfl, rfl⟩ | ⟨ne, hj⟩
        · cases hm
        · rw [List.getElem?_set_ne (fun z => ne z.symm)] at z
          exact q4 j s hj hm z
      | new c2 =>
        cases h
        obtain ⟨b, rfl, _⟩ := o
        rcases set_get hj with ⟨rfl, rfl⟩ | ⟨ne, hj⟩
        · rcases set_get z with ⟨_, e⟩ | ⟨z2, _⟩
          · cases e
            exact hn a ⟨⟨c2, rfl⟩, rfl⟩ 0 _ _ rfl rfl ⟨⟨c, rfl⟩, rfl⟩
          · exact absurd rfl z2
        · rw [List.getElem?_set_ne (fun z => ne z.symm)] at z
          exact q4 j s hj hm z
theorem Rel.puts {B : Fb} : ∀ {is : List Nat} {rs : List Res} {vs : List V} {env env' : Sl} {σ : St} {Hk : Kn} {H : Hp}, Rel K B env σ Hk H → RuAll K B env σ Hk H rs vs → putsRes is rs env = some env' → Rel K B env' (setAll σ is vs) Hk H ∧ is.length = vs.length
  | [], [], _, env, env', σ, Hk, H, R, .nil, h => by
    cases h
    exact ⟨R, rfl⟩
  | i :: is, r :: rs, _, env, env', σ, Hk, H, R, .cons (v := v) (vs := vs) h1 h2 h3 h4, h => by
    obtain ⟨e1, g1, g2⟩ := Option.bind_eq_some_iff.mp h
    have R1 : Rel K B e1 (σ.set i (some v)) Hk H := by
      cases r with
      | slt j => exact absurd rfl (h2 j)
      | dat d =>
        cases g1
        exact R.setVal h1
      | pv p =>
        cases g1
        exact R.setPv h1
      | new c =>
        cases g1
        obtain ⟨a, rfl, q1, q2, q3, q5, q4⟩ := h1
        exact R.setOwn q1 q2 q3 q5 q4
    obtain ⟨R2, l⟩ := Rel.puts R1 (RuAll.put h1 h2 g1 h3 h4) g2
    exact ⟨R2, by simp [l]⟩
  | [], _ :: _, _, env, env', σ, Hk, H, R, _, h => by cases h
  | _ :: _, [], _, env, env', σ, Hk, H, R, _, h => by cases h
theorem par_run {i j : Nat} {W : WX} {D : Ends} {σ : St} {H : Hp} (h : tS K W (mPutU [i, j] ms) D σ H) : tPar i j (tAU K ms) D σ H := by
  obtain ⟨B, env, Hk, f, env', R, hm, k⟩ := h
  obtain ⟨⟨rs, e1⟩, h1, hm⟩ := Option.bind_eq_some_iff.mp hm
  obtain ⟨e2, h2, hm⟩ := Option.map_eq_some_iff.mp hm
  cases hm
  refine ⟨B, env, Hk, rs, e1, R, h1, fun vs Hk1 H1 R1 s1 o1 => ?_⟩
  obtain ⟨R2, l⟩ := R1.puts o1 h2
  match vs, l with
  | [v, w], _ => exact ⟨v, w, rfl, k _ Hk1 H1 R2 s1⟩
theorem vs_par {i j : Nat} {x y : Str} {a b : Expr} {px py pt : Pos} {kt k2 pt2} (hN : X.N.Nodup) (ha : VAU X [a, b] ms) (hc : X.calm = true := by rfl) (hi : X.N[i]? = some x := by rfl) (hj : X.N[j]? = some y := by rfl) (hij : i ≠ j := by decide)
    (hx : X.env.scope.names.lookup x = some .local := by rfl) (hy : X.env.scope.names.lookup y = some .local := by rfl)
    (hw : swappedStores [.Tuple [.Name x px, .Name y py] kt pt] (.Tuple [a, b] k2 pt2) X.env = pure (some [x, y]) := by rfl)
    (hs : swapsWithSole [.Tuple [.Name x px, .Name y py] kt pt] (.Tuple [a, b] k2 pt2) pos.line X.env = pure false := by rfl) :
    VS X (.Assign [.Tuple [.Name x px, .Name y py] kt pt] (.Tuple [a, b] k2 pt2) pos) (mPutU [i, j] ms) := fun W _ => (ps_par hc hN hi hj hij hx hy ha hw hs).imp fun _ _ _ => par_run
def gNames : List Nat → TGs
  | [] => gNil
  | i :: is => gCons (gName i) (gNames is)
theorem gNames_run : ∀ {is : List Nat} {vs : List V} {σ : St} {H : Hp} {Q : St → Hp → Prop}, is.length = vs.length → Q (setAll σ is vs) H → gNames is vs σ H Q
  | [], [], _, _, _, _, q => ⟨rfl, q⟩
  | i :: is, v :: vs, σ, H, Q, l, q => ⟨v, vs, rfl, gNames_run (is := is) (vs := vs) (σ := σ.set i (some v)) (by simpa using l) q⟩
theorem asgT_run {is : List Nat} (hz : is.length ≤ 100000) {W : WX} {D : Ends} {σ : St} {H : Hp} (h : tS K W (mPutU is ms) D σ H) : tAsg (tTup (tAU K ms)) (gTup K is.length (gNames is)) D σ H := by
  obtain ⟨B, env, Hk, f, env', R, hm, k⟩ := h
  obtain ⟨⟨rs, e1⟩, h1, hm⟩ := Option.bind_eq_some_iff.mp hm
  obtain ⟨e2, h2, hm⟩ := Option.map_eq_some_iff.mp hm
  cases hm
  refine ⟨B, env, Hk, rs, e1, R, h1, fun vs Hk1 H1 R1 s1 o1 => ?_⟩
  obtain ⟨R2, l⟩ := R1.puts o1 h2
  refine ⟨by rw [← l]; exact sz_of hz, fun p hp => ⟨p, vs, rfl, SqT.of upd_same, l.symm, gNames_run l ?_⟩⟩
  exact k _ Hk1 _ (R2.laid hp) s1
theorem vs_asgT {is : List Nat} {kt : Nat} {tpos pt2 : Pos} {ts es : List Expr} {k2} (ha : VAU X es ms) (hg : PGs X ts (gNames is)) (hc : X.calm = true := by rfl) (hn : (assignEach ts X.env).length = is.length := by rfl) (hst : (assignEach ts X.env).findIdx? (·.1) = none := by rfl) (hz : is.length ≤ 100000 := by decide)
    (hs : swapsWithSole [.Tuple ts kt tpos] (.Tuple es k2 pt2) pos.line X.env = pure false := by rfl) (hw : swappedStores [.Tuple ts kt tpos] (.Tuple es k2 pt2) X.env = pure none := by rfl)
    (h1 : (assignEach [.Tuple ts kt tpos] X.env).map (·.2) = [assign (.Tuple ts kt tpos) X.env] := by rfl) : VS X (.Assign [.Tuple ts kt tpos] (.Tuple es k2 pt2) pos) (mPutU is ms) :=
  fun W _ => (ps_asg (pe_tup ha) (pg_tup hc hg hn hst) hs hw h1).imp fun _ _ _ => asgT_run hz
end
def tG (K : PySem.W.Frag) (js : List Nat) (mg : MG) : TG := fun v σ H Q => ∃ B env Hk d env', Rel K B env σ Hk H ∧ Dv K Hk v d ∧ mg d env = some env' ∧
  ∀ σ' Hk' H', Rel K B env' σ' Hk' H' → KSame Hk Hk' → (∀ i, i ∉ js → σ'[i]? = σ[i]?) → σ'.length = σ.length → Q σ' H'
def mgName (j : Nat) : MG := fun d env => some (env.set j (.val d))
abbrev VG (X : Cx) (e : Expr) (js : List Nat) (mg : MG) : Prop := PG X e (tG X.K js mg)
def tGs (K : PySem.W.Frag) (js : List Nat) (mg : MGs) : TGs := fun vs σ H Q => ∃ B env Hk ds env', Rel K B env σ Hk H ∧ DvAll K Hk vs ds ∧ mg ds env = some env' ∧
  ∀ σ' Hk' H', Rel K B env' σ' Hk' H' → KSame Hk Hk' → (∀ i, i ∉ js → σ'[i]? = σ[i]?) → σ'.length = σ.length → Q σ' H'
def mgNil : MGs := fun ds env => match ds with
  | [] => some env
  | _ => none
def mgCons (g : MG) (gs : MGs) : MGs := fun ds env => match ds with
  | d :: ds => (g d env).bind (gs ds)
  | _ => none
def mgTup (gs : MGs) : MG := fun d env => match d with
  | .tuple ds => gs ds env
  | _ => none
section
variable {X : Cx} {K : PySem.W.Frag} {js is : List Nat} {g : MG} {gs : MGs} {pos : Pos}
theorem gname_run {j : Nat} {v : V} {σ : St} {H : Hp} {Q : St → Hp → Prop} (h : tG K [j] (mgName j) v σ H Q) : gName j v σ H Q := by
  obtain ⟨B, env, Hk, d, env', R, hd, hm, k⟩ := h
  cases hm
  exact k _ _ _ (R.setVal hd) (.refl _) (fun i hi => List.getElem?_set_ne (fun z => hi (by simp [z]))) (List.length_set)
theorem vg_name {j : Nat} {x : Str} (hN : X.N.Nodup) (hi : X.N[j]? = some x := by rfl) (hx : Loc X.env.scope x := by first | exact Or.inl rfl | exact Or.inr rfl) (hf : X.fn x = true ∨ X.env.scope.names.lookup x = some .local := by first | exact .inl rfl | exact .inr rfl | assumption) : VG X (.Name x pos) [j] (mgName j) :=
  (pg_name hN hi hx hf).imp fun _ _ _ _ => gname_run
theorem gnil_run {vs : List V} {σ : St} {H : Hp} {Q : St → Hp → Prop} (h : tGs K [] mgNil vs σ H Q) : gNil vs σ H Q := by
  obtain ⟨B, env, Hk, ds, env', R, hd, hm, k⟩ := h
  cases hd with
  | nil =>
    cases hm
    exact ⟨rfl, k σ _ _ R (.refl _) (fun _ _ => rfl) rfl⟩
  | cons _ _ => cases hm
theorem gcons_run {vs : List V} {σ : St} {H : Hp} {Q : St → Hp → Prop} (h : tGs K (js ++ is) (mgCons g gs) vs σ H Q) : gCons (tG K js g) (tGs K is gs) vs σ H Q := by
  obtain ⟨B, env, Hk, ds, env', R, hd, hm, k⟩ := h
  cases hd with
  | nil => cases hm
  | cons h1 h2 =>
    obtain ⟨e1, g1, g2⟩ := Option.bind_eq_some_iff.mp hm
    refine ⟨_, _, rfl, B, env, Hk, _, e1, R, h1, g1, fun σ1 Hk1 H1 R1 s1 d1 l1 => ?_⟩
    refine ⟨B, e1, Hk1, _, env', R1, dvAll_mono s1 _ _ h2, g2, fun σ2 Hk2 H2 R2 s2 d2 l2 => ?_⟩
    refine k σ2 Hk2 H2 R2 (s1.trans s2) (fun i hi => ?_) (l2.trans l1)
    rw [d2 i (fun z => hi (List.mem_append_right _ z)), d1 i (fun z => hi (List.mem_append_left _ z))]
theorem vgs_nil : PGs X [] (tGs X.K [] mgNil) := pgs_nil.imp fun _ _ _ _ => gnil_run
theorem vgs_cons {e : Expr} {es : List Expr} (h1 : VG X e js g) (h2 : PGs X es (tGs X.K is gs)) (hs : (assignEach (e :: es) X.env).map (·.2) = assign e X.env :: (assignEach es X.env).map (·.2) := by rfl) : PGs X (e :: es) (tGs X.K (js ++ is) (mgCons g gs)) :=
  (pgs_cons h1 h2 hs).imp fun _ _ _ _ => gcons_run
theorem gtup_run {n : Nat} (hl : ∀ ds env env', gs ds env = some env' → ds.length = n) {v : V} {σ : St} {H : Hp} {Q : St → Hp → Prop} (h : tG K js (mgTup gs) v σ H Q) : gTup K n (tGs K js gs) v σ H Q := by
  obtain ⟨B, env, Hk, d, env', R, hd, hm, k⟩ := h
  cases d with
  | tuple ds =>
    cases hd with
    | tup h1 h2 => exact ⟨_, _, rfl, same_tup R.ex h1, by rw [h2.len]; exact hl _ _ _ hm, B, env, Hk, ds, env', R, h2, hm, k⟩
  | _ => cases hm
theorem mgnil_len : ∀ ds env env', mgNil ds env = some env' → ds.length = 0 := fun ds env env' h => by
  cases ds with
  | nil => rfl
  | cons _ _ => cases h
theorem mgcons_len {n : Nat} (hl : ∀ ds env env', gs ds env = some env' → ds.length = n) : ∀ ds env env', mgCons g gs ds env = some env' → ds.length = n + 1 := fun ds env env' h => by
  cases ds with
  | nil => cases h
  | cons d ds =>
    obtain ⟨e1, g1, g2⟩ := Option.bind_eq_some_iff.mp h
    rw [List.length_cons, hl _ _ _ g2]
theorem vg_tup {es : List Expr} {kk n : Nat} (h : PGs X es (tGs X.K js gs)) (hl : ∀ ds env env', gs ds env = some env' → ds.length = n) (hc : X.calm = true := by rfl) (hn : (assignEach es X.env).length = n := by rfl) (hst : (assignEach es X.env).findIdx? (·.1) = none := by rfl) : VG X (.Tuple es kk pos) js (mgTup gs) :=
  (pg_tup hc h hn hst).imp fun _ _ _ _ => gtup_run hl
end
def IterOk (K : PySem.W.Frag) (Hk0 : Hp) (J : It) (ds : List PyData) : Prop := ∀ (Hk H : Hp), Same Hk0 Hk → Same Hk H → ∀ i, (∀ d, ds[i]? = some d → J.go i H ∧ ∀ x H', J.yld i H x H' → Out K Hk H (.dat d) x H') ∧ (ds.length ≤ i → J.stop i H)
def tI (K : PySem.W.Frag) (m : MI) : TI := fun σ H R => ∃ B env Hk ds env', Rel K B env σ Hk H ∧ m env = some (ds, env') ∧
  ∀ J Hk' H', Rel K B env' σ Hk' H' → KSame Hk Hk' → IterOk K Hk' J ds → R J H'
abbrev VI (X : Cx) (tg e : Expr) (m : MI) : Prop := PI X tg e (tI X.K m)
def forL (g : MG) (b : MS) : List PyData → Sl → Option (Fl × Sl)
  | [], e => some (.nx, e)
  | d :: ds, e => (g d e).bind fun e1 => (b e1).bind fun q => match q.1 with
    | .nx => forL g b ds q.2
    | .ct => forL g b ds q.2
    | .bk => some (.nx, q.2)
    | .rt r => some (.rt r, q.2)
    | .ex C fs => some (.ex C fs, q.2)
def mFor (mi : MI) (g : MG) (b : MS) : MS := fun env => (mi env).bind fun p => forL g b p.1 p.2
section
variable {X : Cx} {K : PySem.W.Frag} {js : List Nat} {g : MG} {b : MS} {mi : MI} {pos : Pos}
theorem drop_cons {α : Type} {l : List α} {i : Nat} {d : α} {r : List α} (h : l.drop i = d :: r) : l[i]? = some d ∧ l.drop (i + 1) = r ∧ i < l.length := by
  have h1 : l[i]? = some d := by
    rw [← List.head?_drop, h]
    rfl
  refine ⟨h1, ?_, (List.getElem?_eq_some_iff.mp h1).1⟩
  rw [← List.drop_drop, h]
  rfl
theorem for_run {W : WX} {D : Ends} {σ : St} {H : Hp} (h : tS K W (mFor mi g b) D σ H) : tFor (tI K mi) (tG K js g) (tS K W b) D σ H := by
  obtain ⟨B, env, Hk, f, env', R, hm, k⟩ := h
  obtain ⟨⟨ds, e1⟩, h1, hm⟩ := Option.bind_eq_some_iff.mp hm
  refine ⟨B, env, Hk, ds, e1, R, h1, fun J Hk1 H1 R1 s1 it => ?_⟩
  refine ⟨fun i m σ H => m = ds.length - i ∧ ∃ e, ∃ Hk2 : Kn, Rel K B e σ Hk2 H ∧ KSame Hk1 Hk2 ∧ forL g b (ds.drop i) e = some (f, env'), ⟨ds.length, by simp, e1, Hk1, R1, .refl _, hm⟩, ?_⟩
  rintro i m σ2 H2 ⟨rfl, e, Hk2, R2, s2, hf⟩
  obtain ⟨go, stop⟩ := it Hk2 H2 s2.s R2.ex i
  cases hd : ds.drop i with
  | nil =>
    rw [hd] at hf
    cases hf
    have hl : ds.length ≤ i := List.drop_eq_nil_iff.mp hd
    exact .inl ⟨stop hl, k σ2 Hk2 H2 R2 (s1.trans s2)⟩
  | cons d r =>
    rw [hd] at hf
    obtain ⟨hi, hr, hlt⟩ := drop_cons hd
    obtain ⟨gi, yi⟩ := go d hi
    obtain ⟨e2, g1, hf⟩ := Option.bind_eq_some_iff.mp hf
    obtain ⟨⟨f1, e3⟩, g2, hf⟩ := Option.bind_eq_some_iff.mp hf
    refine .inr ⟨gi, fun σ' H' => ∃ e, ∃ Hk2 : Kn, Rel K B e σ' Hk2 H' ∧ KSame Hk1 Hk2 ∧ forL g b (ds.drop (i + 1)) e = some (f, env'), fun σ' H' w => ⟨ds.length - (i + 1), by omega, rfl, w⟩, fun x H' y => ?_⟩
    obtain ⟨Hk3, R3, s3, o3⟩ := R2.out (yi x H' y)
    refine ⟨B, e, Hk3, d, e2, R3, o3, g1, fun σ3 Hk4 H4 R4 s4 _ _ => ?_⟩
    refine ⟨B, e2, Hk4, f1, e3, R4, g2, fun σ4 Hk5 H5 R5 s5 => ?_⟩
    have sm := ((s2.trans s3).trans s4).trans s5
    cases f1 with
    | nx =>
      refine ⟨e3, Hk5, R5, sm, ?_⟩
      rw [hr]
      exact hf
    | ct =>
      refine ⟨e3, Hk5, R5, sm, ?_⟩
      rw [hr]
      exact hf
    | bk =>
      cases hf
      exact k σ4 Hk5 H5 R5 (s1.trans sm)
    | rt r =>
      cases hf
      exact k σ4 Hk5 H5 R5 (s1.trans sm)
    | ex C fs =>
      cases hf
      exact k σ4 Hk5 H5 R5 (s1.trans sm)
theorem vs_for {tg iter : Expr} {body : List Stmt} (hp : PassesOwn (model X.prog X.w) X.A X.env X.xe) (hi : VI X tg iter mi) (hg : VG X tg js g) (hb : VSs X body b) (hc : X.calm = true := by rfl)
    (hs : ∀ x, foldedSetIterable iter X.env x = pure x := by intro _; rfl) : VS X (.For tg iter body [] pos) (mFor mi g b) := fun W t => (ps_for hp hc hi hg (hb W t) hs).imp fun _ _ _ => for_run
end
def wipeS (env : Sl) : List Nat → Sl
  | [] => env
  | v :: vs => (wipeS env vs).set v .no
def lcL (g : MG) (t : MT) (me : ME) (vs : List Nat) : List PyData → Sl → List PyData → Option (List PyData × Sl)
  | [], e, acc => some (acc, e)
  | d :: ds, e, acc => (g d e).bind fun e1 => (t e1).bind fun p => if p.1 = true then (mFrz me p.2).bind fun q => match q.1 with
    | .dat x => lcL g t me vs ds (wipeS q.2 vs) (acc ++ [x])
    | _ => none else lcL g t me vs ds (wipeS p.2 vs) acc
def mLc (mi : MI) (g : MG) (t : MT) (me : ME) (vs : List Nat) : ME := fun env => (mi env).bind fun p => if p.1.length ≤ 100000 then (lcL g t me vs p.1 (wipeS p.2 vs) []).map fun q => (.new (.lst q.1), q.2) else none
section
variable {X : Cx} {K : PySem.W.Frag} {js : List Nat} {g : MG} {t : MT} {me : ME} {mi : MI} {pos : Pos}
theorem Rel.wiped {B : Fb} {env : Sl} {σ : St} {Hk : Kn} {H : Hp} (R : Rel K B env σ Hk H) : ∀ vs : List Nat, Rel K B (wipeS env vs) (wipe σ vs) Hk H
  | [] => R
  | v :: vs => (Rel.wiped R vs).setNo
theorem wipeS_no {env : Sl} {i : Nat} {s : Slot} : ∀ {vs : List Nat}, i ∈ vs → (wipeS env vs)[i]? = some s → s = .no
  | v :: vs, h, e => by
    rcases set_get (show ((wipeS env vs).set v .no)[i]? = some s from e) with ⟨_, z⟩ | ⟨ne, z⟩
    · exact z
    · rcases List.mem_cons.mp h with q | q
      · exact absurd q ne
      · exact wipeS_no q z
theorem wipe_out {σ : St} {i : Nat} : ∀ {vs : List Nat}, i ∉ vs → (wipe σ vs)[i]? = σ[i]?
  | [], _ => rfl
  | v :: vs, h => by
    show ((wipe σ vs).set v none)[i]? = _
    rw [List.getElem?_set_ne (fun e => h (by simp [e]))]
    exact wipe_out (fun z => h (List.mem_cons_of_mem _ z))
theorem wipe_in {σ : St} {i : Nat} : ∀ {vs : List Nat}, i ∈ vs → i < σ.length → (wipe σ vs)[i]? = some none
  | v :: vs, h, hl => by
    show ((wipe σ vs).set v none)[i]? = _
    by_cases e : v = i
    · subst e
      rw [List.getElem?_set_self (by rw [wipe_length]; exact hl)]
    · rw [List.getElem?_set_ne e]
      rcases List.mem_cons.mp h with q | q
      · exact absurd q.symm e
      · exact wipe_in q hl
theorem wipe_ext {σ σ' : St} {vs : List Nat} (h : ∀ i, i ∉ vs → σ'[i]? = σ[i]?) (hl : σ'.length = σ.length) : wipe σ' vs = wipe σ vs := by
  refine List.ext_getElem? fun i => ?_
  by_cases hi : i ∈ vs
  · by_cases hlt : i < σ.length
    · rw [wipe_in hi hlt, wipe_in hi (by omega)]
    · rw [List.getElem?_eq_none (by rw [wipe_length]; omega), List.getElem?_eq_none (by rw [wipe_length]; omega)]
  · rw [wipe_out hi, wipe_out hi, h i hi]
theorem Rel.unwiped {B : Fb} {env : Sl} {σ : St} {Hk : Kn} {H : Hp} {vs : List Nat} (R : Rel K B (wipeS env vs) (wipe σ vs) Hk H) : Rel K B (wipeS env vs) σ Hk H where
  ex := R.ex
  kn := R.kn
  fr := R.fr
  kp := R.kp
  oin := R.oin
  o0 := R.o0
  len := by rw [R.len, wipe_length]
  slot := fun i s hi => by
    by_cases h : i ∈ vs
    · rw [wipeS_no h hi]
      obtain ⟨o, h1, _⟩ := R.slot i s hi
      have hl : i < σ.length := by
        have := (List.getElem?_eq_some_iff.mp h1).1
        rw [wipe_length] at this
        exact this
      exact ⟨σ[i], List.getElem?_eq_getElem hl, trivial⟩
    · obtain ⟨o, h1, h2⟩ := R.slot i s hi
      rw [wipe_out h] at h1
      exact ⟨o, h1, h2⟩
  sok := R.sok
  pin := R.pin
  psep := fun i s a n hi ms e1 => by
    have n1 : i ∉ vs := fun z => by
      rw [wipeS_no z hi] at ms
      exact ms
    exact R.psep i s a n hi ms (by rw [wipe_out n1]; exact e1)
  sep := fun i j s u a hi hj ms mu e1 e2 => by
    have n1 : i ∉ vs := fun z => by
      rw [wipeS_no z hi] at ms
      exact ms
    have n2 : j ∉ vs := fun z => by
      rw [wipeS_no z hj] at mu
      exact mu
    exact R.sep i j s u a hi hj ms mu (by rw [wipe_out n1]; exact e1) (by rw [wipe_out n2]; exact e2)
theorem lcL_wiped {vs : List Nat} : ∀ {ds : List PyData} {e : Sl} {acc : List PyData} {out : List PyData} {env' : Sl}, lcL g t me vs ds (wipeS e vs) acc = some (out, env') → ∃ e', env' = wipeS e' vs
  | [], e, acc, out, env', h => by
    cases h
    exact ⟨e, rfl⟩
  | d :: ds, e, acc, out, env', h => by
    obtain ⟨e1, g1, h⟩ := Option.bind_eq_some_iff.mp h
    obtain ⟨⟨b, e2⟩, g2, h⟩ := Option.bind_eq_some_iff.mp h
    cases b with
    | false => exact lcL_wiped (show lcL g t me vs ds (wipeS e2 vs) acc = _ from h)
    | true =>
      obtain ⟨⟨r, e3⟩, g3, h⟩ := Option.bind_eq_some_iff.mp (show ((mFrz me e2).bind _) = _ from h)
      cases r with
      | dat x => exact lcL_wiped (show lcL g t me vs ds (wipeS e3 vs) _ = _ from h)
      | new c => cases h
      | slt i => cases h
      | pv p => cases h
theorem lc_run {vs : List Nat} (hj : ∀ j, j ∈ js → j ∈ vs) {σ : St} {H : Hp} {Q : VK} (h : tE K (mLc mi g t me vs) σ H Q) : tLc (tI K mi) (tG K js g) (tT K t) (tE K (mFrz me)) vs σ H Q := by
  obtain ⟨B, env, Hk, res, env', R, hm, k⟩ := h
  obtain ⟨⟨ds, e1⟩, h1, hm⟩ := Option.bind_eq_some_iff.mp hm
  by_cases hz : ds.length ≤ 100000
  · have hm : ((lcL g t me vs ds (wipeS e1 vs) []).map fun q => (Res.new (Cell.lst q.1), q.2)) = some (res, env') := by
      have hm : (if ds.length ≤ 100000 then _ else _) = _ := hm
      rw [if_pos hz] at hm
      exact hm
    obtain ⟨⟨out, e2⟩, h2, hm⟩ := Option.map_eq_some_iff.mp hm
    cases hm
    refine ⟨B, env, Hk, ds, e1, R, h1, fun J Hk1 H1 R1 s1 it p hp => ?_⟩
    obtain ⟨ew, rfl⟩ := lcL_wiped h2
    refine ⟨fun i m H => m = ds.length - i ∧ ∃ e, ∃ Hk2 : Kn, ∃ xs acc, Rel K B (wipeS e vs) (wipe σ vs) Hk2 H ∧ KSame Hk1 Hk2 ∧ H p = some (.lst xs) ∧ Hk2 p = none ∧ (∀ (n : Nat), Hk2.P n ≠ some p) ∧ (∀ (j : Nat) s, (wipeS e vs)[j]? = some s → s.mut → (wipe σ vs)[j]? ≠ some (some (V.ref p))) ∧ DvAll K Hk2 xs acc ∧ acc.length ≤ i ∧ lcL g t me vs (ds.drop i) (wipeS e vs) acc = some (out, wipeS ew vs),
      ⟨ds.length, by simp, e1, Hk1, [], [], (R1.wiped vs).laid hp, .refl _, upd_same, R1.kfree hp, R1.pfree hp, fun j s a b => (R1.wiped vs).mutNe hp a b, .nil, Nat.zero_le _, h2⟩, ?_⟩
    have h0 : B.H0 p = none := R1.fresh0 hp
    rintro i m H2 ⟨rfl, e, Hk2, xs, acc, R2, s2, hpx, hkp, hPp, hnm, hda, hal, hf⟩
    obtain ⟨go, stop⟩ := it Hk2 H2 s2 R2.ex i
    cases hd : ds.drop i with
    | nil =>
      rw [hd] at hf
      have hf : some (acc, wipeS e vs) = some (out, wipeS ew vs) := hf
      obtain ⟨rfl, he⟩ : acc = out ∧ wipeS e vs = wipeS ew vs := by
        have := Option.some.inj hf
        exact ⟨congrArg Prod.fst this, congrArg Prod.snd this⟩
      have hl : ds.length ≤ i := List.drop_eq_nil_iff.mp hd
      refine .inl ⟨stop hl, k _ Hk2 H2 (he ▸ R2.unwiped) (s1.trans s2) ⟨p, rfl, hkp, h0, ⟨xs, hpx, hda⟩, hPp, ?_⟩⟩
      rw [← he]
      intro j s hjs hms z
      have nj : j ∉ vs := fun z => by
        rw [wipeS_no z hjs] at hms
        exact hms
      exact hnm j s hjs hms (by rw [wipe_out nj]; exact z)
    | cons d r =>
      rw [hd] at hf
      obtain ⟨hi, hr, hlt⟩ := drop_cons hd
      obtain ⟨gi, yi⟩ := go d hi
      obtain ⟨e2, g1, hf⟩ := Option.bind_eq_some_iff.mp hf
      obtain ⟨⟨b, e3⟩, g2, hf⟩ := Option.bind_eq_some_iff.mp hf
      have G := R2.guard hpx hkp h0 hPp hnm
      refine .inr ⟨gi, fun H' => ∃ e, ∃ Hk2 : Kn, ∃ xs acc, Rel K B (wipeS e vs) (wipe σ vs) Hk2 H' ∧ KSame Hk1 Hk2 ∧ H' p = some (.lst xs) ∧ Hk2 p = none ∧ (∀ (n : Nat), Hk2.P n ≠ some p) ∧ (∀ (j : Nat) s, (wipeS e vs)[j]? = some s → s.mut → (wipe σ vs)[j]? ≠ some (some (V.ref p))) ∧ DvAll K Hk2 xs acc ∧ acc.length ≤ i + 1 ∧ lcL g t me vs (ds.drop (i + 1)) (wipeS e vs) acc = some (out, wipeS ew vs),
        fun H' w => ⟨ds.length - (i + 1), by omega, rfl, w⟩, fun x H' y => ?_⟩
      obtain ⟨Hk3, G3, s3, o3⟩ := G.out (yi x H' y)
      refine ⟨_, _, Hk3, d, e2, G3, o3, g1, fun σ4 Hk4 H4 G4 s4 d4 l4 => ⟨?_, ?_⟩⟩
      · rw [wipe_ext (σ := wipe σ vs) (fun i hi => d4 i fun z => hi (hj i z)) l4]
        exact wipe_ext (fun i hi => wipe_out hi) (wipe_length _ _)
      have wq : wipe σ4 vs = wipe σ vs := by
        rw [wipe_ext (σ := wipe σ vs) (fun i hi => d4 i fun z => hi (hj i z)) l4]
        exact wipe_ext (fun i hi => wipe_out hi) (wipe_length _ _)
      have s3 := s3.trans s4
      refine ⟨_, e2, Hk4, b, e3, G4, g2, fun Hk5 H5 G5 s5 => ?_⟩
      have fin : ∀ {e : Sl} {Hk6 : Kn} {H6 : Hp}, Rel K (B.guard p (.lst xs)) e σ4 Hk6 H6 → Rel K B (wipeS e vs) (wipe σ vs) Hk6 H6 ∧ H6 p = some (.lst xs) ∧ Hk6 p = none ∧ (∀ (n : Nat), Hk6.P n ≠ some p) ∧ ∀ (j : Nat) s, (wipeS e vs)[j]? = some s → s.mut → (wipe σ vs)[j]? ≠ some (some (V.ref p)) := fun {e Hk6 H6} G6 => by
        have Gw := G6.wiped vs
        rw [wq] at Gw
        exact Gw.unguard h0 (R1.kn.free (R1.kfree hp)) (R1.nO h0)
      cases b with
      | false =>
        have hf : lcL g t me vs r (wipeS e3 vs) acc = some (out, wipeS ew vs) := hf
        obtain ⟨F1, F2, F3, F5, F4⟩ := fin G5
        show ∃ e Hk2 xs acc, _
        exact ⟨e3, Hk5, xs, acc, F1, (s2.trans s3).trans s5, F2, F3, F5, F4, dvAll_mono (s3.trans s5) _ _ hda, by omega, by rw [hr]; exact hf⟩
      | true =>
        have hf : ((mFrz me e3).bind _) = some (out, wipeS ew vs) := hf
        obtain ⟨⟨rx, e4⟩, g3, hf⟩ := Option.bind_eq_some_iff.mp hf
        show tE K (mFrz me) σ4 H5 _
        refine ⟨_, e3, Hk5, rx, e4, G5, g3, fun y6 Hk6 H6 G6 s6 o6 => ?_⟩
        obtain ⟨F1, F2, F3, F5, F4⟩ := fin G6
        cases rx with
        | new c => cases hf
        | slt i => cases hf
        | pv p => cases hf
        | dat dx =>
          have hf : lcL g t me vs r (wipeS e4 vs) (acc ++ [dx]) = some (out, wipeS ew vs) := hf
          have sm := (s3.trans s5).trans s6
          refine ⟨xs, F2, ?_, e4, Hk6, xs ++ [y6], acc ++ [dx], F1.other F3 h0 F5 (fun x z => by rw [F2] at z; cases z) F4, s2.trans sm, upd_same, F3, F5, F4, DvAll.append (dvAll_mono sm _ _ hda) (.cons o6 .nil), ?_, ?_⟩
          · rw [hda.len]
            exact Nat.lt_of_lt_of_le (show acc.length < 200000 by omega) (by decide)
          · rw [List.length_append]
            show acc.length + 1 ≤ i + 1
            omega
          · rw [hr]
            exact hf
  · have hm : (if ds.length ≤ 100000 then _ else _) = _ := hm
    rw [if_neg hz] at hm
    cases hm
def mYes : MT := fun env => some (true, env)
abbrev VTs (X : Cx) (ifs : List Expr) (t : MT) : Prop := PTs X ifs (tT X.K t)
theorem vts_nil : VTs X [] mYes := pts_nil.imp fun _ _ _ h => by
  obtain ⟨B, env, Hk, b, env', R, hm, k⟩ := h
  cases hm
  exact k Hk _ R (.refl _)
theorem ve_lc {elt tg iter : Expr} {ifs : List Expr} {scope : Scope} {own : List (Str × Nat)} (hN : X.N.Nodup) (hi : VI X tg iter mi) (ok : BlkOk X.N X.env.scope scope own)
    (hg : ∀ (s : Shared) (H : Hp) (C : Addr) (cl : List (Str × Addr)) (fp : List Addr), VG (X.blk s H scope (compEnvC scope cl C X.env) fp) tg js g) (ht : ∀ (s : Shared) (H : Hp) (C : Addr) (cl : List (Str × Addr)) (fp : List Addr), VTs (X.blk s H scope (compEnvC scope cl C X.env) fp) ifs t)
    (he : ∀ (s : Shared) (H : Hp) (C : Addr) (cl : List (Str × Addr)) (fp : List Addr), VE (X.blk s H scope (compEnvC scope cl C X.env) fp) elt me) (hj : ∀ j, j ∈ js → j ∈ own.map (·.2)) (hc : X.calm = true := by rfl) (hs : ∀ x, foldedSetIterable iter X.env x = pure x := by intro _; rfl) :
    VE X (.ListComp elt [⟨tg, iter, ifs, 0⟩] scope pos) (mLc mi g t me (own.map (·.2))) :=
  (pe_lc hc hN hi ok hg ht (fun s H C cl fp => ve_frz (he s H C cl fp)) hs).imp fun _ _ _ => lc_run hj
end
end Cm
namespace Cm
open PySem PySem.Spec PyProof.Rows L2
def spF (K : PySem.W.Frag) (fm : FM) : Sp := fun vs H Q _ => ∃ Hk ins r outs, Same Hk H ∧ ArgsOk K Hk H ins vs ∧ fm ins = some (r, outs) ∧ ∀ v Hk' H', PostF K Hk H ins vs outs r v Hk' H' → Q v H'
def finR : Fl × Sl → Option Res
  | (.nx, _) => some (.dat .none)
  | (.rt (.dat d), _) => some (.dat d)
  | (.rt (.new c), _) => some (.new c)
  | (.rt (.pv p), e) => (p.deep (sto e) 9).map .dat
  | (.rt (.slt i), e) => match e[i]? with
    | some (.val d) => some (.dat d)
    | some (.own c) => some (.new c)
    | _ => none
  | _ => none
def fmOf (np n : Nat) (mb : MS) : FM := fun ins => if ins.length = np then (mb (ins ++ List.replicate (n - np) .no)).bind fun p => (finR p).bind fun r => if ioKept ins p.2 = true then some (r, p.2.take np) else none else none
theorem ioKept_get : ∀ {s t : Sl} {i k : Nat} {c : Cell}, ioKept s t = true → s[i]? = some (.io k c) → ∃ c', t[i]? = some (.io k c')
  | .io k _ :: s, .io l c' :: t, 0, k', c, h, e => by
    simp at e
    simp only [ioKept, Bool.and_eq_true, beq_iff_eq] at h
    exact ⟨c', by rw [← e.1, h.1]; rfl⟩
  | .io k _ :: s, .io l c' :: t, i + 1, k', c, h, e => by
    simp only [ioKept, Bool.and_eq_true] at h
    obtain ⟨z, q⟩ := ioKept_get (i := i) h.2 (by simpa using e)
    exact ⟨z, by simpa using q⟩
  | .io k _ :: s, .no :: t, _, _, _, h, e => by cases h
  | .io k _ :: s, .val _ :: t, _, _, _, h, e => by cases h
  | .io k _ :: s, .own _ :: t, _, _, _, h, e => by cases h
  | .io k _ :: s, .scr _ :: t, _, _, _, h, e => by cases h
  | .io k _ :: s, .pin _ :: t, _, _, _, h, e => by cases h
  | .io k _ :: s, .pv _ :: t, _, _, _, h, e => by cases h
  | .io k _ :: s, .sto _ :: t, _, _, _, h, e => by cases h
  | .io k _ :: s, [], _, _, _, h, e => by cases h
  | .no :: s, x :: t, 0, _, _, h, e => by simp at e
  | .val _ :: s, x :: t, 0, _, _, h, e => by simp at e
  | .own _ :: s, x :: t, 0, _, _, h, e => by simp at e
  | .scr _ :: s, x :: t, 0, _, _, h, e => by simp at e
  | .pin _ :: s, x :: t, 0, _, _, h, e => by simp at e
  | .sto _ :: s, x :: t, 0, _, _, h, e => by simp at e
  | .pv _ :: s, x :: t, 0, _, _, h, e => by simp at e
  | .no :: s, x :: t, i + 1, _, _, h, e => by
    obtain ⟨z, q⟩ := ioKept_get (s := s) (t := t) (i := i) h (by simpa using e)
    exact ⟨z, by simpa using q⟩
  | .val _ :: s, x :: t, i + 1, _, _, h, e => by
    obtain ⟨z, q⟩ := ioKept_get (s := s) (t := t) (i := i) h (by simpa using e)
    exact ⟨z, by simpa using q⟩
  | .own _ :: s, x :: t, i + 1, _, _, h, e => by
    obtain ⟨z, q⟩ := ioKept_get (s := s) (t := t) (i := i) h (by simpa using e)
    exact ⟨z, by simpa using q⟩
  | .scr _ :: s, x :: t, i + 1, _, _, h, e => by
    obtain ⟨z, q⟩ := ioKept_get (s := s) (t := t) (i := i) h (by simpa using e)
    exact ⟨z, by simpa using q⟩
  | .pin _ :: s, x :: t, i + 1, _, _, h, e => by
    obtain ⟨z, q⟩ := ioKept_get (s := s) (t := t) (i := i) h (by simpa using e)
    exact ⟨z, by simpa using q⟩
  | .sto _ :: s, x :: t, i + 1, _, _, h, e => by
    obtain ⟨z, q⟩ := ioKept_get (s := s) (t := t) (i := i) h (by simpa using e)
    exact ⟨z, by simpa using q⟩
  | .pv _ :: s, x :: t, i + 1, _, _, h, e => by
    obtain ⟨z, q⟩ := ioKept_get (s := s) (t := t) (i := i) h (by simpa using e)
    exact ⟨z, by simpa using q⟩
  | .no :: s, [], 0, _, _, h, e => by simp at e
  | .val _ :: s, [], 0, _, _, h, e => by simp at e
  | .own _ :: s, [], 0, _, _, h, e => by simp at e
  | .scr _ :: s, [], 0, _, _, h, e => by simp at e
  | .pin _ :: s, [], 0, _, _, h, e => by simp at e
  | .sto _ :: s, [], 0, _, _, h, e => by simp at e
  | .pv _ :: s, [], 0, _, _, h, e => by simp at e
  | .no :: s, [], i + 1, _, _, h, e => by
    obtain ⟨z, q⟩ := ioKept_get (s := s) (t := []) (i := i) h (by simpa using e)
    simp at q
  | .val _ :: s, [], i + 1, _, _, h, e => by
    obtain ⟨z, q⟩ := ioKept_get (s := s) (t := []) (i := i) h (by simpa using e)
    simp at q
  | .own _ :: s, [], i + 1, _, _, h, e => by
    obtain ⟨z, q⟩ := ioKept_get (s := s) (t := []) (i := i) h (by simpa using e)
    simp at q
  | .scr _ :: s, [], i + 1, _, _, h, e => by
    obtain ⟨z, q⟩ := ioKept_get (s := s) (t := []) (i := i) h (by simpa using e)
    simp at q
  | .pin _ :: s, [], i + 1, _, _, h, e => by
    obtain ⟨z, q⟩ := ioKept_get (s := s) (t := []) (i := i) h (by simpa using e)
    simp at q
  | .sto _ :: s, [], i + 1, _, _, h, e => by
    obtain ⟨z, q⟩ := ioKept_get (s := s) (t := []) (i := i) h (by simpa using e)
    simp at q
  | .pv _ :: s, [], i + 1, _, _, h, e => by
    obtain ⟨z, q⟩ := ioKept_get (s := s) (t := []) (i := i) h (by simpa using e)
    simp at q
  | [], _, i, _, _, _, e => by simp at e
section
variable {P : Program} {w : World} {K : PySem.W.Frag} {mg : Str → Option Value} {base : Heap}
theorem ioA_of {ins : Sl} {vs : List V} {k : Nat} {a : Addr} (h : ioA ins vs k = some a) : ∃ l c, ins[k]? = some (.io l c) ∧ vs[k]? = some (.ref a) := by
  unfold ioA at h
  split at h
  · rename_i l c b e1 e2
    cases h
    exact ⟨l, c, e1, e2⟩
  · cases h
theorem ioA_is {ins : Sl} {vs : List V} {k l : Nat} {c : Cell} {a : Addr} (h : ins[k]? = some (.io l c)) (h' : vs[k]? = some (.ref a)) : ioA ins vs k = some a := by
  unfold ioA
  rw [h, h']
theorem start_get {N : List Str} {vs : List V} {i : Nat} {v : V} (h : vs[i]? = some v) : (L2.start N vs)[i]? = some (some v) := by
  unfold L2.start
  rw [List.getElem?_append_left (by rw [List.length_map]; exact (List.getElem?_eq_some_iff.mp h).1), List.getElem?_map, h]
  rfl
theorem start_len {N : List Str} {vs : List V} (h : vs.length ≤ N.length) : (L2.start N vs).length = N.length := by
  unfold L2.start
  rw [List.length_append, List.length_map, List.length_replicate]
  omega
theorem ArgsOk.rel {Hk H : Hp} {ins : Sl} {vs : List V} {N : List Str} (A : ArgsOk K Hk H ins vs) (s : Same Hk H) (hl : vs.length ≤ N.length) :
    Rel K ⟨⟨Hk, fun _ => none⟩, H, ioA ins vs, fun _ => none, fun _ => False⟩ (ins ++ List.replicate (N.length - ins.length) .no) (L2.start N vs) ⟨Hk, fun _ => none⟩ H := by
  have io : ∀ a, (⟨⟨Hk, fun _ => none⟩, H, ioA ins vs, fun _ => none, fun _ => False⟩ : Fb).io a → H a ≠ none ∧ Hk a = none := fun a h => by
    obtain ⟨k, h⟩ := h.resolve_right (fun z => z)
    obtain ⟨l, c, e1, e2⟩ := ioA_of h
    obtain ⟨b, e3, q1, q2⟩ := A.arg k _ _ e1 e2
    cases e3
    obtain ⟨o, ho⟩ := q2.there
    exact ⟨ne_none ho, q1⟩
  have cut : ∀ (i : Nat) s, (ins ++ List.replicate (N.length - ins.length) Slot.no)[i]? = some s → (ins[i]? = some s ∧ i < vs.length) ∨ s = .no := fun i s h => by
    by_cases hi : i < ins.length
    · rw [List.getElem?_append_left hi] at h
      exact .inl ⟨h, by rw [← A.len]; exact hi⟩
    · rw [List.getElem?_append_right (by omega), List.getElem?_replicate] at h
      split at h
      · cases h
        exact .inr rfl
      · cases h
  refine ⟨s, .refl _, fun a h1 h2 => absurd h2 h1, fun a o h _ => h, io, fun a h => (io a h).1, ?_, fun i s h => ?_, fun i j s t a h1 h2 m1 m2 e1 e2 => ?_, fun M h => ?_, (fun n a h => by cases h), (fun _ _ _ _ _ _ _ h => by cases h)⟩
  · rw [List.length_append, List.length_replicate, start_len hl, A.len]
    omega
  · rcases cut i s h with ⟨q, hi⟩ | rfl
    · have hv : vs[i]? = some vs[i] := List.getElem?_eq_getElem hi
      refine ⟨some vs[i], start_get hv, ?_⟩
      have z := A.arg i s _ q hv
      cases s with
      | no => trivial
      | val d => exact ⟨_, rfl, z⟩
      | own c => cases z
      | scr ns =>
        obtain ⟨a, e1, q1⟩ := z
        exact ⟨a, by rw [e1], q1⟩
      | pin a => cases z
      | pv p => cases z
      | sto M => cases z
      | io k c =>
        obtain ⟨a, e1, q1, q2⟩ := z
        refine ⟨a, by rw [e1], q1, ?_, q2⟩
        have := A.ix i k c q
        subst this
        exact ioA_is q (by rw [hv, e1])
    · have hlt : i < (L2.start N vs).length := by
        have := (List.getElem?_eq_some_iff.mp h).1
        rw [List.length_append, List.length_replicate, A.len] at this
        rw [start_len hl]
        omega
      exact ⟨_, List.getElem?_eq_getElem hlt, trivial⟩
  · rcases cut i s h1 with ⟨q1, hi⟩ | rfl
    · rcases cut j t h2 with ⟨q2, hj⟩ | rfl
      · have v1 : vs[i]? = some vs[i] := List.getElem?_eq_getElem hi
        have v2 : vs[j]? = some vs[j] := List.getElem?_eq_getElem hj
        have g1 := start_get (N := N) v1
        have g2 := start_get (N := N) v2
        rw [e1] at g1
        rw [e2] at g2
        have w1 : vs[i]? = some (.ref a) := by rw [v1]; exact congrArg some (Option.some.inj (Option.some.inj g1)).symm
        have w2 : vs[j]? = some (.ref a) := by rw [v2]; exact congrArg some (Option.some.inj (Option.some.inj g2)).symm
        cases s with
        | no => cases m1
        | val d => cases m1
        | scr d => cases m1
        | pin a => cases m1
        | pv p => cases m1
        | sto M => cases m1
        | own c => exact False.elim (A.arg i _ _ q1 w1)
        | io k c =>
          cases t with
          | no => cases m2
          | val d => cases m2
          | scr d => cases m2
          | pin a => cases m2
          | pv p => cases m2
          | sto M => cases m2
          | own c => exact False.elim (A.arg j _ _ q2 w2)
          | io l c' => exact A.sep i j k l c c' a q1 q2 w1 w2
      · cases m2
    · cases m1
  · rcases cut _ _ h with ⟨q, hi⟩ | z
    · exact False.elim (A.arg _ _ _ q (List.getElem?_eq_getElem hi))
    · cases z
theorem spF_len' {np : Nat} {fm : FM} (hnp : ∀ ins r, fm ins = some r → ins.length = np) (vs : List V) (H : Hp) (Q : VK) (E : XK) (h : spF K fm vs H Q E) : vs.length = np := by
  obtain ⟨Hk, ins, r, outs, _, hA, hf, _⟩ := h
  rw [← hA.len, hnp _ _ hf]
theorem fmOf_len {np n : Nat} {mb : MS} (ins : Sl) (r : Res × Sl) (h : fmOf np n mb ins = some r) : ins.length = np := by
  unfold fmOf at h
  by_cases hl : ins.length = np
  · exact hl
  · rw [if_neg hl] at h
    cases h
theorem spF_len {N ps : List Str} {mb : MS} (vs : List V) (H : Hp) (Q : VK) (E : XK) (h : spF K (fmOf ps.length N.length mb) vs H Q E) : vs.length = ps.length := spF_len' (fun _ _ => fmOf_len _ _) vs H Q E h
def fmSt (np n : Nat) (mb : MS) : FM := fun ins => if ins.length = np then (mb ((ins ++ List.replicate (n - np) Slot.no).set (n - 1) (Slot.sto []))).bind fun p => (finR p).bind fun r => if ioKept ins p.2 = true then some (r, p.2.take np) else none else none
theorem fmSt_len {np n : Nat} {mb : MS} (ins : Sl) (r : Res × Sl) (h : fmSt np n mb ins = some r) : ins.length = np := by
  unfold fmSt at h
  by_cases hl : ins.length = np
  · exact hl
  · rw [if_neg hl] at h
    cases h
theorem Rel.stoNew {B : Fb} {env : Sl} {σ : L2.St} {Hk : Kn} {H : Hp} (R : Cm.Rel K B env σ Hk H) (hP : ∀ n, Hk.P n = none) (i : Nat) : Cm.Rel K B (env.set i (.sto [])) σ Hk H where
  ex := R.ex
  kn := R.kn
  fr := R.fr
  kp := R.kp
  oin := R.oin
  o0 := R.o0
  len := by rw [List.length_set]; exact R.len
  slot := fun j t hj => by
    rcases set_get hj with ⟨rfl, rfl⟩ | ⟨hne, hj'⟩
    · have hl : j < σ.length := by
        have := (List.getElem?_eq_some_iff.mp hj).1
        rw [List.length_set] at this
        rw [← R.len]
        exact this
      exact ⟨_, List.getElem?_eq_getElem hl, trivial⟩
    · exact R.slot j t hj'
  sep := fun j k s t b hj hk ms mt g1 g2 => by
    rcases set_get hj with ⟨rfl, rfl⟩ | ⟨_, hj⟩
    · cases ms
    · rcases set_get hk with ⟨rfl, rfl⟩ | ⟨_, hk⟩
      · cases mt
      · exact R.sep j k s t b hj hk ms mt g1 g2
  sok := fun M h => by
    by_cases hM : M = []
    · subst hM
      exact ⟨fun n c z => (by simp at z), fun n m a z => (by rw [hP] at z; cases z), fun n _ => hP n⟩
    · unfold HasSto at h
      rcases set_get h with ⟨_, z⟩ | ⟨_, z⟩
      · exact absurd (Slot.sto.inj z) hM
      · rw [List.length_set] at z
        exact R.sok M z
  pin := R.pin
  psep := fun j s a n hj ms g => by
    rw [hP]
    exact fun z => nomatch z
theorem Kn.all_same {B : Fb} {env : Sl} {σ : L2.St} {Hk : Kn} {H : Hp} (R : Cm.Rel K B env σ Hk H) : Same Hk (Hk.all H) := fun a o e => by
  unfold Kn.all
  split
  · exact R.ex _ _ e
  · exact e
theorem Kn.all_ex {B : Fb} {env : Sl} {σ : L2.St} {Hk : Kn} {H : Hp} (R : Cm.Rel K B env σ Hk H) : Same (Hk.all H) H := fun a o e => by
  unfold Kn.all at e
  split at e
  · exact e
  · exact R.ex _ _ e
theorem Kn.all_at {Hk : Kn} {H : Hp} {n : Nat} {a : Addr} (h : Hk.P n = some a) : Hk.all H a = H a := if_pos ⟨n, h⟩
theorem Kn.all_out {Hk : Kn} {H : Hp} {a : Addr} (h : ∀ n, Hk.P n ≠ some a) : Hk.all H a = Hk a := if_neg fun ⟨n, e⟩ => h n e
theorem fn_bodyG {qual : Str} {st : Stmt} {f : Addr} {N ps : List Str} {mb : MS} (S : FnScope N ps (defScope st)) {cdv : Value} {A : Around} {outer : List Env} {s : Shared} {H : Hp} {E : XK} {vs : List V} {Q : VK}
    (hb : VSs ((cxOf CX0 P w K mg base N qual (defScope st) f cdv A outer s H E).nox) (defBody st) mb) {Hk : Hp} {ins env0 : Sl} {r : Res} {outs : Sl} (sm : Same Hk H) (hA : ArgsOk K Hk H ins vs) (hl : ins.length = ps.length)
    (h0 : ∀ {B : Fb} {σ : L2.St} {Hk' : Kn}, (∀ n, Hk'.P n = none) → Cm.Rel K B (ins ++ List.replicate (N.length - ps.length) Slot.no) σ Hk' H → Cm.Rel K B env0 σ Hk' H)
    (hf : ((mb env0).bind fun p => (finR p).bind fun r => if ioKept ins p.2 = true then some (r, p.2.take ps.length) else none) = some (r, outs)) (q : ∀ v Hk' H', PostF K Hk H ins vs outs r v Hk' H' → Q v H') :
    ∃ t, PSs (cxOf CX0 P w K mg base N qual (defScope st) f cdv A outer s H E) (defBody st) t ∧ t { nx := fun _ H' => Q .non H', rt := Q } (L2.start N vs) H := by
  have hpl : ps.length ≤ N.length := by
    have := congrArg List.length S.pre
    rw [List.length_take] at this
    omega
  obtain ⟨⟨fl, env'⟩, h1, hf⟩ := Option.bind_eq_some_iff.mp hf
  obtain ⟨r', h2, hf⟩ := Option.bind_eq_some_iff.mp hf
  by_cases hk : ioKept ins env' = true
  · have hf : (if ioKept ins env' = true then some (r', env'.take ps.length) else none) = some (r, outs) := hf
    rw [if_pos hk] at hf
    cases hf
    refine ⟨tS K (fun _ _ _ _ => False) mb, PSs.nox (hb _ fun u s' h => by obtain ⟨_, _, _, _, _, _, _, _, _, _, _, _, _, _, _, _, w⟩ := h; exact w.elim), ?_⟩
    have R := hA.rel (N := N) sm (by rw [← hA.len, hl]; exact hpl)
    rw [hl] at R
    refine ⟨_, _, _, fl, env', h0 (fun _ => rfl) R, h1, fun σ' Hk' H' R' s' => ?_⟩
    have post : ∀ v, FRes K H Hk' H' r v → Q v H' := fun v hv => by
      refine q v Hk' H' ⟨s'.s, R'.ex, R'.fr, fun a o h1 h2 => R'.kp a o h1 (fun z => z.elim (fun ⟨k, z⟩ => h2 k z) id), fun k a h => ?_, hv⟩
      obtain ⟨l, c, e1, e2⟩ := ioA_of h
      have := hA.ix k l c e1
      subst this
      obtain ⟨c', g1⟩ := ioKept_get hk e1
      have hlt : l < ps.length := by rw [← hl]; exact (List.getElem?_eq_some_iff.mp e1).1
      refine ⟨c', by rw [List.getElem?_take_of_lt hlt]; exact g1, (R'.oin a (.inl ⟨l, h⟩)).2, ?_⟩
      obtain ⟨o, _, b, _, _, z1, z2⟩ := R'.slot l _ g1
      have z1 : ioA ins vs l = some b := z1
      rw [h] at z1
      cases z1
      exact z2
    cases fl with
    | nx =>
      cases h2
      exact post .non .non
    | bk => cases h2
    | ct => cases h2
    | ex C fs => cases h2
    | rt r0 =>
      intro v hv
      cases r0 with
      | dat d =>
        cases h2
        exact post v hv
      | pv p =>
        obtain ⟨d, h3, rfl⟩ := Option.map_eq_some_iff.mp h2
        have hd : Dv K (Hk'.all H') v d := R'.deepP (Kn.all_same R') (fun n c a _ _ h => Kn.all_at h) 9 hv h3
        have hio : ∀ (n : Nat) k a, Hk'.P n = some a → ioA ins vs k ≠ some a := fun n k a h1 h2 => by
          obtain ⟨l, c, e1, e2⟩ := ioA_of h2
          have := hA.ix k l c e1
          subst this
          obtain ⟨c', g1⟩ := ioKept_get hk e1
          obtain ⟨o, z0, b, rfl, _, z1, z2⟩ := R'.slot l _ g1
          have z1 : ioA ins vs l = some b := z1
          rw [h2] at z1
          cases z1
          exact R'.psep l _ a n g1 trivial z0 h1
        refine q v (Hk'.all H') H' ⟨s'.s.trans (Kn.all_same R'), Kn.all_ex R', fun a h1 h2 => ?_, fun a o h1 h2 => R'.kp a o h1 (fun z => z.elim (fun ⟨k, z⟩ => h2 k z) id), fun k a h => ?_, hd⟩
        · by_cases hp : ∃ n, Hk'.P n = some a
          · obtain ⟨n, hn⟩ := hp
            by_cases hka : Hk' a = none
            · rcases (R'.pin n a hn).2 hka with z | z
              · exact z
              · exact False.elim (z.elim (fun ⟨k, z⟩ => hio n k a hn z) id)
            · exact R'.fr a hka h2
          · rw [Kn.all_out fun n z => hp ⟨n, z⟩] at h1
            exact R'.fr a h1 h2
        · obtain ⟨l, c, e1, e2⟩ := ioA_of h
          have := hA.ix k l c e1
          subst this
          obtain ⟨c', g1⟩ := ioKept_get hk e1
          have hlt : l < ps.length := by rw [← hl]; exact (List.getElem?_eq_some_iff.mp e1).1
          refine ⟨c', by rw [List.getElem?_take_of_lt hlt]; exact g1, ?_, ?_⟩
          · rw [Kn.all_out fun n z => hio n l a z h]
            exact (R'.oin a (.inl ⟨l, h⟩)).2
          · obtain ⟨o, _, b, _, _, z1, z2⟩ := R'.slot l _ g1
            have z1 : ioA ins vs l = some b := z1
            rw [h] at z1
            cases z1
            exact z2.mono (Kn.all_same R') fun o z => z
      | new c =>
        cases h2
        obtain ⟨a, rfl, q1, q2, q3, _⟩ := hv
        exact post _ ⟨a, rfl, q1, q2, q3⟩
      | slt i =>
        have hv : σ'[i]? = some (some v) := hv
        cases e : env'[i]? with
        | none =>
          simp only [finR, e] at h2
          cases h2
        | some s =>
          obtain ⟨o, g1, g2⟩ := R'.slot i s e
          rw [hv] at g1
          cases g1
          simp only [finR, e] at h2
          cases s with
          | val d =>
            cases h2
            obtain ⟨v', e1, z⟩ := g2
            cases e1
            exact post _ z
          | own c =>
            cases h2
            obtain ⟨a, e1, z1, z2, z3⟩ := g2
            cases e1
            exact post _ ⟨a, rfl, z1, z2, z3⟩
          | _ => cases h2
  · have hf : (if ioKept ins env' = true then some (r', env'.take ps.length) else none) = some (r, outs) := hf
    rw [if_neg hk] at hf
    cases hf
theorem fn_body {qual : Str} {st : Stmt} {f : Addr} {N ps : List Str} {mb : MS} (S : FnScope N ps (defScope st)) {cdv : Value} {A : Around} {outer : List Env} {s : Shared} {H : Hp} {E : XK} {vs : List V} {Q : VK}
    (hb : VSs ((cxOf CX0 P w K mg base N qual (defScope st) f cdv A outer s H E).nox) (defBody st) mb) (h : spF K (fmOf ps.length N.length mb) vs H Q E) :
    ∃ t, PSs (cxOf CX0 P w K mg base N qual (defScope st) f cdv A outer s H E) (defBody st) t ∧ t { nx := fun _ H' => Q .non H', rt := Q } (L2.start N vs) H := by
  obtain ⟨Hk, ins, r, outs, sm, hA, hf, q⟩ := h
  have hl := fmOf_len _ _ hf
  unfold fmOf at hf
  rw [if_pos hl] at hf
  exact fn_bodyG S hb sm hA hl (fun _ R => R) hf q
theorem fn_bodyS {qual : Str} {st : Stmt} {f : Addr} {N ps : List Str} {mb : MS} (S : FnScope N ps (defScope st)) {cdv : Value} {A : Around} {outer : List Env} {s : Shared} {H : Hp} {E : XK} {vs : List V} {Q : VK}
    (hb : VSs ((cxOf CX0 P w K mg base N qual (defScope st) f cdv A outer s H E).nox) (defBody st) mb) (h : spF K (fmSt ps.length N.length mb) vs H Q E) :
    ∃ t, PSs (cxOf CX0 P w K mg base N qual (defScope st) f cdv A outer s H E) (defBody st) t ∧ t { nx := fun _ H' => Q .non H', rt := Q } (L2.start N vs) H := by
  obtain ⟨Hk, ins, r, outs, sm, hA, hf, q⟩ := h
  have hl := fmSt_len _ _ hf
  unfold fmSt at hf
  rw [if_pos hl] at hf
  exact fn_bodyG S hb sm hA hl (fun hP R => R.stoNew hP _) hf q
theorem fn_ok {x qual : Str} {st : Stmt} {f : Addr} {fd : FuncData} {N ps : List Str} {k : Nat} {mb : MS} (F : FunD K x qual (defArgs st) (defBody st) (defScope st) [] [] f fd) (S : FnScope N ps (defScope st))
    (hb : ∀ (cdv : Value) (A : Around) (outer : List Env) (s : Shared) (H : Hp) (E : XK), Room k (A.deeper (envOfC qual (defScope st) s.heap.objs.size f cdv)) → VSs ((cxOf CX0 P w K mg base N qual (defScope st) f cdv A outer s H E).nox) (defBody st) mb) :
    FnOk P w K mg base CX0 (k + 1) f fd ps (spF K (fmOf ps.length N.length mb)) :=
  F.ok (CX := CX0) S spF_len fun cdv A outer s H vs Q E hr h => fn_body S (hb cdv A outer s H E hr) h
theorem fn_okS {x qual : Str} {st : Stmt} {f : Addr} {fd : FuncData} {N ps : List Str} {k : Nat} {mb : MS} (F : FunD K x qual (defArgs st) (defBody st) (defScope st) [] [] f fd) (S : FnScope N ps (defScope st))
    (hb : ∀ (cdv : Value) (A : Around) (outer : List Env) (s : Shared) (H : Hp) (E : XK), Room k (A.deeper (envOfC qual (defScope st) s.heap.objs.size f cdv)) → VSs ((cxOf CX0 P w K mg base N qual (defScope st) f cdv A outer s H E).nox) (defBody st) mb) :
    FnOk P w K mg base CX0 (k + 1) f fd ps (spF K (fmSt ps.length N.length mb)) :=
  F.ok (CX := CX0) S (spF_len' (fun _ _ => fmSt_len _ _)) fun cdv A outer s H vs Q E hr h => fn_bodyS S (hb cdv A outer s H E hr) h
end
end Cm
namespace Cm
open PySem L2
def argV (brw : Bool) (io : Option Nat) (env : Sl) (k : Nat) (r : Res) : Option Slot := if io = some k then (match r with
    | .slt i => match env[i]? with
      | some (.own c) => some (.io k c)
      | some (.io _ c) => some (.io k c)
      | _ => none
    | _ => none) else match r with
    | .dat d => some (.val d)
    | .slt i => match env[i]? with
      | some (.val d) => some (.val d)
      | some (.scr ns) => some (.scr ns)
      | some (.own c) => if brw then some (.val c.dat) else none
      | some (.io _ c) => if brw then some (.val c.dat) else none
      | _ => none
    | .pv p => if brw then (p.deep (sto env) 9).map .val else (p.kn (sto env)).map .val
    | _ => none
def argsV (brw : Bool) (io : Option Nat) (env : Sl) : Nat → List Res → Option Sl
  | _, [] => some []
  | k, r :: rs => (argV brw io env k r).bind fun s => (argsV brw io env (k + 1) rs).map (s :: ·)
def backV (io : Option Nat) (env : Sl) (rs : List Res) (outs : Sl) : Option Sl := match io with
  | none => some env
  | some q => match rs[q]?, outs[q]? with
    | some (.slt i), some (.io _ c) => match env[i]? with
      | some s => some (env.set i (s.put c))
      | none => none
    | _, _ => none
def mCallV (fm : FM) (io : Option Nat) (ms : MA) : ME := fun env => (ms env).bind fun p => (argsV false io p.2 0 p.1).bind fun ins => (fm ins).bind fun q => (backV io p.2 p.1 q.2).map fun e => (q.1, e)
def lentOk (io : Option Nat) (rs : List Res) : Bool := match io with
  | none => true
  | some q => match rs[q]? with
    | some (.slt i) => (List.range rs.length).all fun j => j == q || (match rs[j]? with
      | some (.slt l) => l != i
      | _ => true)
    | _ => false
def mCallF (fm : FM) (io : Option Nat) (ms : MA) : ME := fun env => (ms env).bind fun p => if lentOk io p.1 = true then (argsV true io p.2 0 p.1).bind fun ins => (fm ins).bind fun q => if (flatR q.1 && q.2.all flatS) = true then (backV io p.2 p.1 q.2).map fun e => (q.1, e) else none else none
section
variable {X : Cx} {K : PySem.W.Frag} {B : Fb} {env : Sl} {σ : St} {Hk Hk' : Kn} {H H' : Hp}
theorem argsV_get {brw : Bool} {io : Option Nat} : ∀ {rs : List Res} {k : Nat} {ins : Sl}, argsV brw io env k rs = some ins → ins.length = rs.length ∧ ∀ (i : Nat) r, rs[i]? = some r → ∃ s, ins[i]? = some s ∧ argV brw io env (k + i) r = some s
  | [], k, ins, h => by
    cases h
    exact ⟨rfl, fun i r e => by simp at e⟩
  | r :: rs, k, ins, h => by
    obtain ⟨s, h1, h⟩ := Option.bind_eq_some_iff.mp h
    obtain ⟨ss, h2, h3⟩ := Option.map_eq_some_iff.mp h
    subst h3
    obtain ⟨l, g⟩ := argsV_get h2
    refine ⟨by simp [l], fun i r' e => ?_⟩
    cases i with
    | zero =>
      simp at e
      subst e
      exact ⟨s, rfl, h1⟩
    | succ i =>
      obtain ⟨s', q1, q2⟩ := g i r' (by simpa using e)
      refine ⟨s', by simpa using q1, ?_⟩
      rw [show k + (i + 1) = k + 1 + i by omega]
      exact q2
theorem RsAll.get : ∀ {rs : List Res} {vs : List V}, RsAll K σ Hk rs vs → ∀ (i : Nat) v, vs[i]? = some v → ∃ r, rs[i]? = some r ∧ RsOk K σ Hk r v
  | _, _, .nil, i, v, h => by simp at h
  | _, _, .cons h1 _, 0, v, h => by
    simp at h
    subst h
    exact ⟨_, rfl, h1⟩
  | _, _, .cons _ h2, i + 1, v, h => by
    obtain ⟨r, e, q⟩ := RsAll.get h2 i v (by simpa using h)
    exact ⟨r, by simpa using e, q⟩
theorem Rel.mutAt (R : Rel K B env σ Hk H) {i : Nat} {s : Slot} (hs : env[i]? = some s) (hm : s.mut) : ∃ a, σ[i]? = some (some (V.ref a)) ∧ Hk a = none ∧ (∃ o, H a = some o) ∧ (B.H0 a = none ∨ B.io a) := by
  obtain ⟨o, h1, h2⟩ := R.slot i s hs
  cases s with
  | no => cases hm
  | val d => cases hm
  | scr d => cases hm
  | pin a => cases hm
  | pv p => cases hm
  | sto M => cases hm
  | own c =>
    obtain ⟨a, rfl, q1, q2, q3⟩ := h2
    exact ⟨a, h1, q1, q3.there, .inl q2⟩
  | io k c =>
    obtain ⟨a, rfl, q1, q2, q3⟩ := h2
    exact ⟨a, h1, q1, q3.there, .inr (.inl ⟨k, q2⟩)⟩
theorem Rel.called (R : Rel K B env σ Hk H) (kn : Same Hk Hk') (hP : Hk'.P = Hk.P) (ex : Same Hk' H') (fr : ∀ a, Hk' a ≠ none → Hk a = none → H a = none) {i : Nat} {s : Slot} {a : Addr} {c' : Cell} (hs : env[i]? = some s) (hm : s.mut) (ha : σ[i]? = some (some (V.ref a)))
    (kp : ∀ b o, H b = some o → b ≠ a → H' b = some o) (hc : CellAt K Hk' H' a c') : Rel K B (env.set i (s.put c')) σ Hk' H' := by
  obtain ⟨a', e1, q1, ⟨o, ho⟩, q2⟩ := R.mutAt hs hm
  rw [ha] at e1
  cases e1
  obtain ⟨o', ho'⟩ := hc.there
  have hk' : Hk' a = none := by
    cases q : Hk' a with
    | none => rfl
    | some u => exact absurd (fr a (ne_none q) q1) (ne_none ho)
  have eqH : H' = upd (upd H' a o) a o' := by
    funext b
    by_cases e : b = a
    · rw [e, upd_same, ho']
    · rw [upd_ne e, upd_ne e]
  have sH : Same H (upd H' a o) := fun b x e => by
    by_cases z : b = a
    · rw [z] at e ⊢
      rw [ho] at e
      rw [upd_same]
      exact e
    · rw [upd_ne z]
      exact kp b x e z
  have R2 : Rel K B env σ Hk' (upd H' a o) := R.grow kn (fun b x e => by
    have z : b ≠ a := fun z => by rw [z, hk'] at e; cases e
    rw [upd_ne z]
    exact ex b x e) sH fr hP
  have hc2 : CellAt K Hk' (upd (upd H' a o) a o') a c' := by
    rw [← eqH]
    exact hc
  have R3 := R2.change hs hm ha hc2
  rw [← eqH] at R3
  exact R3
theorem same_of_keep {ins : Sl} {vs : List V} {H H' : Hp} (kp : ∀ a o, H a = some o → (∀ k, ioA ins vs k ≠ some a) → H' a = some o) (hn : ∀ k, ioA ins vs k = none) : Same H H' := fun a o e => kp a o e fun k z => by rw [hn k] at z; cases z
theorem args_io {brw : Bool} {io : Option Nat} {rs : List Res} {ins : Sl} (h : argsV brw io env 0 rs = some ins) {i k : Nat} {c : Cell} (e : ins[i]? = some (.io k c)) : k = i ∧ io = some i ∧ ∃ j s, rs[i]? = some (.slt j) ∧ env[j]? = some s ∧ s.mut ∧ (s = .own c ∨ ∃ l, s = .io l c) := by
  obtain ⟨l, g⟩ := argsV_get h
  have hi : i < rs.length := by rw [← l]; exact (List.getElem?_eq_some_iff.mp e).1
  obtain ⟨s, q1, q2⟩ := g i _ (List.getElem?_eq_getElem hi)
  rw [e] at q1
  cases q1
  rw [Nat.zero_add] at q2
  unfold argV at q2
  by_cases hio : io = some i
  · rw [if_pos hio] at q2
    cases er : rs[i] with
    | dat d => rw [er] at q2; cases q2
    | new d => rw [er] at q2; cases q2
    | pv p => rw [er] at q2; cases brw <;> simp at q2
    | slt j =>
      rw [er] at q2
      cases ej : env[j]? with
      | none => simp only [ej] at q2; cases q2
      | some s =>
        simp only [ej] at q2
        cases s with
        | no => cases q2
        | val d => cases q2
        | scr d => cases q2
        | pin a => cases q2
        | pv p => cases q2
        | sto M => cases q2
        | own c2 =>
          cases q2
          exact ⟨rfl, hio, j, _, by rw [List.getElem?_eq_getElem hi, er], ej, trivial, .inl rfl⟩
        | io l c2 =>
          cases q2
          exact ⟨rfl, hio, j, _, by rw [List.getElem?_eq_getElem hi, er], ej, trivial, .inr ⟨l, rfl⟩⟩
  · rw [if_neg hio] at q2
    cases er : rs[i] with
    | dat d => rw [er] at q2; cases q2
    | new d => rw [er] at q2; cases q2
    | pv p => rw [er] at q2; cases brw <;> simp at q2
    | slt j =>
      rw [er] at q2
      cases ej : env[j]? with
      | none => simp only [ej] at q2; cases q2
      | some s =>
        simp only [ej] at q2
        cases s with
        | no => cases q2
        | val d => cases q2
        | scr d => cases q2
        | pin a => cases q2
        | pv p => cases q2
        | sto M => cases q2
        | own c2 => cases brw <;> cases q2
        | io l c2 => cases brw <;> cases q2
theorem io_at (R : Rel K B env σ Hk H) {brw : Bool} {io : Option Nat} {rs : List Res} {ins : Sl} {vs : List V} (h : argsV brw io env 0 rs = some ins) (hr : RsAll K σ Hk rs vs) {k : Nat} {a : Addr} (e : ioA ins vs k = some a) :
    io = some k ∧ ∃ j s c, ins[k]? = some (.io k c) ∧ rs[k]? = some (.slt j) ∧ env[j]? = some s ∧ s.mut ∧ (s = .own c ∨ ∃ l, s = .io l c) ∧ σ[j]? = some (some (V.ref a)) ∧ vs[k]? = some (.ref a) := by
  obtain ⟨l, c, e1, e2⟩ := ioA_of e
  obtain ⟨rfl, hio, j, s, g1, g2, g3, g4⟩ := args_io h e1
  obtain ⟨r, q1, q2⟩ := hr.get l _ e2
  rw [g1] at q1
  cases q1
  exact ⟨hio, j, s, c, e1, g1, g2, g3, g4, q2, e2⟩
theorem back_is {io : Option Nat} {rs : List Res} {outs e2 : Sl} (h : backV io env rs outs = some e2) : (io = none ∧ e2 = env) ∨ ∃ q i k c s, io = some q ∧ rs[q]? = some (.slt i) ∧ outs[q]? = some (.io k c) ∧ env[i]? = some s ∧ e2 = env.set i (s.put c) := by
  cases io with
  | none =>
    cases h
    exact .inl ⟨rfl, rfl⟩
  | some q =>
    cases h1 : rs[q]? with
    | none => simp only [backV, h1] at h; cases h
    | some r =>
      cases r with
      | dat d => simp only [backV, h1] at h; cases h
      | new d => simp only [backV, h1] at h; cases h
      | pv p => simp only [backV, h1] at h; cases h
      | slt i =>
        cases h2 : outs[q]? with
        | none => simp only [backV, h1, h2] at h; cases h
        | some s =>
          cases s with
          | no => simp only [backV, h1, h2] at h; cases h
          | val d => simp only [backV, h1, h2] at h; cases h
          | own d => simp only [backV, h1, h2] at h; cases h
          | scr d => simp only [backV, h1, h2] at h; cases h
          | pin a => simp only [backV, h1, h2] at h; cases h
          | pv p => simp only [backV, h1, h2] at h; cases h
          | sto M => simp only [backV, h1, h2] at h; cases h
          | io k c =>
            cases h3 : env[i]? with
            | none => simp only [backV, h1, h2, h3] at h; cases h
            | some s =>
              simp only [backV, h1, h2, h3] at h
              cases h
              exact .inr ⟨q, i, k, c, s, rfl, h1, h2, h3, rfl⟩
theorem args_len {brw : Bool} {io : Option Nat} {rs : List Res} {ins : Sl} {vs : List V} (h : argsV brw io env 0 rs = some ins) (hr : RsAll K σ Hk rs vs) : ins.length = vs.length := by
  rw [(argsV_get h).1, hr.len]
theorem io_pos {brw : Bool} {q : Nat} {rs : List Res} {ins : Sl} {i : Nat} (h : argsV brw (some q) env 0 rs = some ins) (hq : rs[q]? = some (.slt i)) : ∃ c s, ins[q]? = some (.io q c) ∧ env[i]? = some s ∧ s.mut := by
  obtain ⟨s, q1, q2⟩ := (argsV_get h).2 q _ hq
  rw [Nat.zero_add] at q2
  unfold argV at q2
  rw [if_pos rfl] at q2
  cases ej : env[i]? with
  | none => simp only [ej] at q2; cases q2
  | some s2 =>
    simp only [ej] at q2
    cases s2 with
    | no => cases q2
    | val d => cases q2
    | scr d => cases q2
    | pin a => cases q2
    | pv p => cases q2
    | sto M => cases q2
    | own c2 =>
      cases q2
      exact ⟨_, _, q1, rfl, trivial⟩
    | io l c2 =>
      cases q2
      exact ⟨_, _, q1, rfl, trivial⟩
theorem Rel.after (R : Rel K B env σ Hk H) {brw : Bool} {io : Option Nat} {rs : List Res} {ins outs e2 : Sl} {vs : List V} {Hk2 : Hp} (h : argsV brw io env 0 rs = some ins) (hr : RsAll K σ Hk rs vs) (hb : backV io env rs outs = some e2)
    (kn : Same Hk Hk2) (ex : Same Hk2 H') (fr : ∀ a, Hk2 a ≠ none → Hk a = none → H a = none) (kp : ∀ a o, H a = some o → (∀ k, ioA ins vs k ≠ some a) → H' a = some o)
    (hio : ∀ k a c', ioA ins vs k = some a → outs[k]? = some (.io k c') → CellAt K Hk2 H' a c') (hk : ∀ k a, ioA ins vs k = some a → ∃ c', outs[k]? = some (.io k c')) : Rel K B e2 σ ⟨Hk2, Hk.P⟩ H' := by
  rcases back_is hb with ⟨rfl, rfl⟩ | ⟨q, i, k, c, s, rfl, h1, h2, h3, rfl⟩
  · refine R.grow (Hk' := ⟨Hk2, Hk.P⟩) kn ex (same_of_keep kp fun k => ?_) fr
    cases e : ioA ins vs k with
    | none => rfl
    | some a => cases (io_at R h hr e).1
  · obtain ⟨c0, s0, g1, g2, g3⟩ := io_pos h h1
    rw [h3] at g2
    cases g2
    obtain ⟨a, e1, _, _, _⟩ := R.mutAt h3 g3
    have hql : q < vs.length := by
      rw [← hr.len]
      exact (List.getElem?_eq_some_iff.mp h1).1
    obtain ⟨r, z1, z2⟩ := hr.get q _ (List.getElem?_eq_getElem hql)
    rw [h1] at z1
    cases z1
    have z2 : σ[i]? = some (some vs[q]) := z2
    rw [e1] at z2
    have hv : vs[q]? = some (.ref a) := by
      rw [List.getElem?_eq_getElem hql]
      exact congrArg some (Option.some.inj (Option.some.inj z2)).symm
    have hA : ioA ins vs q = some a := ioA_is g1 hv
    obtain ⟨c', h4⟩ := hk q a hA
    rw [h2] at h4
    cases h4
    refine R.called (Hk' := ⟨Hk2, Hk.P⟩) kn rfl ex fr h3 g3 e1 (fun b o hb hne => kp b o hb fun k z => ?_) (hio q a c hA h2)
    have := (io_at R h hr z).1
    cases this
    rw [hA] at z
    exact hne (Option.some.inj z).symm
theorem argVal {brw : Bool} {io : Option Nat} {i : Nat} {r : Res} {s : Slot} (hio : io ≠ some i) (h : argV brw io env i r = some s) :
    (∃ d, r = .dat d ∧ s = .val d) ∨ (∃ p d, r = .pv p ∧ s = .val d ∧ ((brw = true ∧ p.deep (sto env) 9 = some d) ∨ (brw = false ∧ p.kn (sto env) = some d))) ∨ ∃ j, r = .slt j ∧ ((∃ d, env[j]? = some (.val d) ∧ s = .val d) ∨ (∃ ns, env[j]? = some (.scr ns) ∧ s = .scr ns) ∨ (brw = true ∧ ∃ ds t, env[j]? = some t ∧ t.mut ∧ (t = .own ds ∨ ∃ l, t = .io l ds) ∧ s = .val (Cell.dat ds))) := by
  unfold argV at h
  rw [if_neg hio] at h
  cases r with
  | dat d =>
    cases h
    exact .inl ⟨d, rfl, rfl⟩
  | new d => cases h
  | pv p =>
    refine .inr (.inl ⟨p, ?_⟩)
    cases brw with
    | true =>
      obtain ⟨d, h1, rfl⟩ := Option.map_eq_some_iff.mp h
      exact ⟨d, rfl, rfl, .inl ⟨rfl, h1⟩⟩
    | false =>
      obtain ⟨d, h1, rfl⟩ := Option.map_eq_some_iff.mp h
      exact ⟨d, rfl, rfl, .inr ⟨rfl, h1⟩⟩
  | slt j =>
    refine .inr (.inr ⟨j, rfl, ?_⟩)
    cases ej : env[j]? with
    | none => simp only [ej] at h; cases h
    | some t =>
      simp only [ej] at h
      cases t with
      | no => cases h
      | val d =>
        cases h
        exact .inl ⟨d, rfl, rfl⟩
      | scr ns =>
        cases h
        exact .inr (.inl ⟨ns, rfl, rfl⟩)
      | pin a => cases h
      | pv p => cases h
      | sto M => cases h
      | own c =>
        cases brw with
        | true =>
          cases h
          exact .inr (.inr ⟨rfl, c, _, rfl, trivial, .inl rfl, rfl⟩)
        | false => cases h
      | io l c =>
        cases brw with
        | true =>
          cases h
          exact .inr (.inr ⟨rfl, c, _, rfl, trivial, .inr ⟨l, rfl⟩, rfl⟩)
        | false => cases h
theorem args_ok (R : Rel K B env σ Hk H) {brw : Bool} {io : Option Nat} {rs : List Res} {ins : Sl} {vs : List V} {Hl : Hp} (sm : Same Hk Hl) (hn : ∀ i j s a, io = some i → rs[i]? = some (.slt j) → env[j]? = some s → s.mut → σ[j]? = some (some (V.ref a)) → Hl a = none)
    (hl : ∀ i j s a, brw = true → io ≠ some i → rs[i]? = some (.slt j) → env[j]? = some s → s.mut → σ[j]? = some (some (V.ref a)) → Hl a = H a) (hp : brw = true → ∀ n a, Hk.P n = some a → Hl a = H a) (h : argsV brw io env 0 rs = some ins) (hr : RsAll K σ Hk rs vs) : ArgsOk K Hl H ins vs where
  len := args_len h hr
  arg := fun i s v e1 e2 => by
    obtain ⟨r, q1, q2⟩ := hr.get i v e2
    obtain ⟨s', z1, z2⟩ := (argsV_get h).2 i r q1
    rw [e1] at z1
    cases z1
    rw [Nat.zero_add] at z2
    by_cases hio : io = some i
    · cases s with
      | io k c =>
        obtain ⟨_, _, j, s2, g1, g2, g3, g4⟩ := args_io h e1
        rw [q1] at g1
        cases g1
        obtain ⟨a, w1, w2, w3, _⟩ := R.mutAt g2 g3
        have q2 : σ[j]? = some (some v) := q2
        have : v = .ref a := by rw [w1] at q2; exact (Option.some.inj (Option.some.inj q2)).symm
        subst this
        exact ⟨a, rfl, hn i j s2 a hio q1 g2 g3 w1, (CellAt.slot R g2 g4 w1).mono sm fun o z => z⟩
      | _ =>
        unfold argV at z2
        rw [if_pos hio] at z2
        cases r with
        | dat d => cases z2
        | new d => cases z2
        | pv p => cases brw <;> simp at z2
        | slt j =>
          cases ej : env[j]? with
          | none => simp only [ej] at z2; cases z2
          | some s => simp only [ej] at z2; cases s <;> simp at z2
    · rcases argVal hio z2 with ⟨d, rfl, rfl⟩ | ⟨p, d, rfl, rfl, ⟨hb, hd⟩ | ⟨hb, hd⟩⟩ | ⟨j, rfl, ⟨d, ej, rfl⟩ | ⟨ns, ej, rfl⟩ | ⟨hb, ds, t, ej, tm, tc, rfl⟩⟩
      · exact dv_mono sm _ _ q2
      · exact R.deepP sm (fun n c a _ _ h => hp hb n a h) 9 q2 hd
      · exact dv_mono sm _ _ (R.knP q2 hd)
      · have q2 : σ[j]? = some (some v) := q2
        obtain ⟨o, w1, w2⟩ := R.slot j _ ej
        rw [q2] at w1
        cases w1
        obtain ⟨v', x1, x2⟩ := w2
        cases x1
        exact dv_mono sm _ _ x2
      · have q2 : σ[j]? = some (some v) := q2
        obtain ⟨o, w1, w2⟩ := R.slot j _ ej
        rw [q2] at w1
        cases w1
        obtain ⟨a, x1, x2⟩ := w2
        cases x1
        exact ⟨a, rfl, sm.seq x2⟩
      · have q2 : σ[j]? = some (some v) := q2
        obtain ⟨a, w1, w2, w3, _⟩ := R.mutAt ej tm
        have : v = .ref a := by rw [w1] at q2; exact (Option.some.inj (Option.some.inj q2)).symm
        subst this
        obtain ⟨ob, y1, y2⟩ := (CellAt.slot R ej tc w1).obj
        refine y2 Hl sm ?_
        rw [hl i j t a hb hio q1 ej tm w1]
        exact y1
  ix := fun i k c e => (args_io h e).1
  sep := fun i j k l c c' a e1 e2 _ _ => by
    have h1 := (args_io h e1).2.1
    have h2 := (args_io h e2).2.1
    rw [h1] at h2
    exact Option.some.inj h2
theorem res_after (R : Rel K B env σ Hk H) {io : Option Nat} {rs : List Res} {outs e2 : Sl} (hb : backV io env rs outs = some e2) {a : Addr} (ha : H a = none) : ∀ (j : Nat) s, e2[j]? = some s → s.mut → σ[j]? ≠ some (some (V.ref a)) := fun j s hj hm z => by
  rcases back_is hb with ⟨_, rfl⟩ | ⟨q, i, k', c', s', _, _, _, g3, rfl⟩
  · exact R.mutNe ha hj hm z
  · rcases set_get hj with ⟨rfl, rfl⟩ | ⟨_, hj⟩
    · exact R.mutNe ha g3 (by cases s' <;> exact hm) z
    · exact R.mutNe ha hj hm z
theorem callV_run {fm : FM} {io : Option Nat} {ms : MA} {Q : VK} (h : tE K (mCallV fm io ms) σ H Q) : tCall (spF K fm) [] E0 (tA K ms) σ H Q := by
  obtain ⟨B, env, Hk, res, env', R, hm, k⟩ := h
  obtain ⟨⟨rs, e1⟩, h1, hm⟩ := Option.bind_eq_some_iff.mp hm
  obtain ⟨ins, h2, hm⟩ := Option.bind_eq_some_iff.mp hm
  obtain ⟨⟨r, outs⟩, h3, hm⟩ := Option.bind_eq_some_iff.mp hm
  obtain ⟨e2, h4, hm⟩ := Option.map_eq_some_iff.mp hm
  cases hm
  refine ⟨B, env, Hk, rs, e1, R, h1, fun vs Hk1 H1 R1 s1 o1 => ?_⟩
  show spF K fm (vs ++ []) H1 Q E0
  rw [List.append_nil]
  have A : ArgsOk K Hk1 H1 ins vs := args_ok R1 (.refl _) (fun i j s a _ _ g1 g2 g3 => by
    obtain ⟨b, w1, w2, _⟩ := R1.mutAt g1 g2
    rw [g3] at w1
    cases w1
    exact w2) (fun i j s a z => by cases z) (fun z => by cases z) h2 o1
  refine ⟨Hk1, ins, r, outs, R1.ex, A, h3, fun v Hk2 H2 p => ?_⟩
  have R2 : Rel K B env' σ ⟨Hk2, Hk1.P⟩ H2 := R1.after h2 o1 h4 p.kn p.ex p.fr p.kp (fun k a c' e1 e2 => by
    obtain ⟨c2, g1, _, g2⟩ := p.io k a e1
    rw [e2] at g1
    cases g1
    exact g2) fun k a e => let ⟨c2, g1, _⟩ := p.io k a e; ⟨c2, g1⟩
  refine k v _ H2 R2 (s1.trans ⟨p.kn, fun _ _ z => z⟩) ?_
  have hres := p.res
  cases r with
  | dat d => exact hres
  | slt i => cases hres
  | pv p => cases hres
  | new c =>
    obtain ⟨a, rfl, q1, q2, q3⟩ := hres
    exact ⟨a, rfl, q1, R1.fresh0 q2, q3, R1.pfree q2, res_after R1 h4 q2⟩
theorem flat_dv {Hk : Hp} {d : PyData} {v : V} (h : flatD d = true) (q : Dv K Hk v d) (Hk2 : Hp) : Dv K Hk2 v d := by
  cases q with
  | non => exact .non
  | bl b => exact .bl b
  | int i => exact .int i
  | str x => exact .str x
  | lst _ _ => cases h
  | tup _ _ => cases h
  | dct _ _ => cases h
theorem flat_kvs {Hk : Hp} (Hk2 : Hp) : ∀ {ds : List (PyData × PyData)} {vs : List (Key × V)}, (ds.all fun p => flatD p.2) = true → DvKv K Hk vs ds → DvKv K Hk2 vs ds
  | _, _, _, .nil => .nil
  | _, _, h, .cons h1 h2 => by
    simp only [List.all_cons, Bool.and_eq_true] at h
    exact .cons (flat_dv h.1 h1 Hk2) (flat_kvs Hk2 h.2 h2)
theorem flat_dvs {Hk : Hp} (Hk2 : Hp) : ∀ {ds : List PyData} {vs : List V}, ds.all flatD = true → DvAll K Hk vs ds → DvAll K Hk2 vs ds
  | [], _, _, .nil => .nil
  | d :: ds, _, h, .cons h1 h2 => by
    simp only [List.all_cons, Bool.and_eq_true] at h
    exact .cons (flat_dv h.1 h1 Hk2) (flat_dvs Hk2 h.2 h2)
open Classical in
noncomputable def lent (rs : List Res) (io : Option Nat) (env : Sl) (σ : St) (Hk : Kn) (H : Hp) : Hp := fun a => if (∃ (p : Nat) (j : Nat) (s : Slot), rs[p]? = some (.slt j) ∧ io ≠ some p ∧ env[j]? = some s ∧ s.mut ∧ σ[j]? = some (some (V.ref a))) ∨ ∃ n, Hk.P n = some a then H a else Hk a
theorem lent_same (R : Rel K B env σ Hk H) {rs : List Res} {io : Option Nat} : Same Hk (lent rs io env σ Hk H) := fun a o e => by
  unfold lent
  split
  · exact R.ex _ _ e
  · exact e
theorem lent_ex (s : Same Hk H) {rs : List Res} {io : Option Nat} : Same (lent rs io env σ Hk H) H := fun a o e => by
  unfold lent at e
  split at e
  · exact e
  · exact s a o e
theorem lent_no (R : Rel K B env σ Hk H) {rs : List Res} {io : Option Nat} (hL : lentOk io rs = true) (i j : Nat) (s : Slot) (a : Addr) (hio : io = some i) (h1 : rs[i]? = some (.slt j)) (h2 : env[j]? = some s) (h3 : s.mut) (h4 : σ[j]? = some (some (V.ref a))) : lent rs io env σ Hk H a = none := by
  obtain ⟨b, w1, w2, _⟩ := R.mutAt h2 h3
  rw [h4] at w1
  cases w1
  unfold lent
  rw [if_neg]
  · exact w2
  · rintro (⟨p, j', s', x1, x2, x3, x4, x5⟩ | ⟨n, x⟩)
    rotate_left
    · exact R.psep j s a n h2 h3 h4 x
    have hp : p < rs.length := (List.getElem?_eq_some_iff.mp x1).1
    subst hio
    simp only [lentOk, h1, List.all_eq_true, List.mem_range, Bool.or_eq_true, beq_iff_eq] at hL
    rcases hL p hp with y | y
    · exact x2 (by rw [y])
    · rw [x1] at y
      simp only [bne_iff_ne, ne_eq] at y
      exact y (R.sep j' j s' s a x3 h2 x4 h3 x5 h4)
theorem callF_run {fm : FM} {io : Option Nat} {ms : MA} {Q : VK} (h : tE K (mCallF fm io ms) σ H Q) : tCall (spF K fm) [] E0 (tA K ms) σ H Q := by
  obtain ⟨B, env, Hk, res, env', R, hm, k⟩ := h
  obtain ⟨⟨rs, e1⟩, h1, hm⟩ := Option.bind_eq_some_iff.mp hm
  by_cases hL : lentOk io rs = true
  · have hm : (if lentOk io rs = true then _ else _) = some (res, env') := hm
    rw [if_pos hL] at hm
    obtain ⟨ins, h2, hm⟩ := Option.bind_eq_some_iff.mp hm
    obtain ⟨⟨r, outs⟩, h3, hm⟩ := Option.bind_eq_some_iff.mp hm
    by_cases hF : (flatR r && outs.all flatS) = true
    · have hm : (if (flatR r && outs.all flatS) = true then _ else _) = some (res, env') := hm
      rw [if_pos hF] at hm
      obtain ⟨e2, h4, hm⟩ := Option.map_eq_some_iff.mp hm
      cases hm
      rw [Bool.and_eq_true] at hF
      refine ⟨B, env, Hk, rs, e1, R, h1, fun vs Hk1 H1 R1 s1 o1 => ?_⟩
      show spF K fm (vs ++ []) H1 Q E0
      rw [List.append_nil]
      have sm : Same Hk1 (lent rs io e1 σ Hk1 H1) := lent_same R1
      have A : ArgsOk K (lent rs io e1 σ Hk1 H1) H1 ins vs := args_ok R1 sm (lent_no R1 hL) (fun i j s a _ g0 g1 g2 g3 g4 => by
        unfold lent
        rw [if_pos (.inl ⟨i, j, s, g1, g0, g2, g3, g4⟩)]) (fun _ n a g => by
        unfold lent
        rw [if_pos (.inr ⟨n, g⟩)]) h2 o1
      refine ⟨_, ins, r, outs, lent_ex R1.ex, A, h3, fun v Hk2 H2 p => ?_⟩
      have R2 : Rel K B env' σ Hk1 H2 := R1.after h2 o1 h4 (.refl _) ((sm.trans p.kn).trans p.ex) (fun a g1 g2 => absurd g2 g1) p.kp (fun k a c' e1 e2 => by
        obtain ⟨c2, g1, _, g2⟩ := p.io k a e1
        rw [e2] at g1
        cases g1
        have hfl := List.all_eq_true.mp hF.2 _ (List.mem_of_getElem? e2)
        cases c' with
        | lst ds =>
          obtain ⟨xs, y1, y2⟩ := g2
          exact ⟨xs, y1, flat_dvs Hk1 hfl y2⟩
        | dct es =>
          obtain ⟨xs, y1, y2⟩ := g2
          exact ⟨xs, y1, flat_kvs Hk1 hfl y2⟩) fun k a e => let ⟨c2, g1, _⟩ := p.io k a e; ⟨c2, g1⟩
      refine k v Hk1 H2 R2 s1 ?_
      have hres := p.res
      have hfr := hF.1
      cases r with
      | dat d => exact flat_dv hfr hres Hk1
      | slt i => cases hres
      | pv p => cases hres
      | new c =>
        cases c with
        | lst ds =>
          obtain ⟨a, rfl, q1, q2, xs, y1, y2⟩ := hres
          exact ⟨a, rfl, R1.kfree q2, R1.fresh0 q2, ⟨xs, y1, flat_dvs Hk1 hfr y2⟩, R1.pfree q2, res_after R1 h4 q2⟩
        | dct es =>
          obtain ⟨a, rfl, q1, q2, xs, y1, y2⟩ := hres
          exact ⟨a, rfl, R1.kfree q2, R1.fresh0 q2, ⟨xs, y1, flat_kvs Hk1 hfr y2⟩, R1.pfree q2, res_after R1 h4 q2⟩
    · have hm : (if (flatR r && outs.all flatS) = true then _ else _) = some (res, env') := hm
      rw [if_neg hF] at hm
      cases hm
  · have hm : (if lentOk io rs = true then _ else _) = some (res, env') := hm
    rw [if_neg hL] at hm
    cases hm
end
section
variable {X : Cx} {k : Nat} {f : Addr} {fd : FuncData} {ps : List Str} {fm : FM} {x : Str} {p pos : Pos} {e : Expr} {es : List Expr} {ms : MA}
theorem ve_callV (io : Option Nat) (F : FnOk X.prog X.w X.K X.mg X.base CX0 k f fd ps (spF X.K fm)) (hr : Room k X.A) (hm : X.mg x = some (.ref f)) (hk : PySem.W.keepIn X.K (.ref f) = true) (hb : Binds X.K fd ps [])
    (ha : VA X (e :: es) ms) (hg : Gl X x := by rfl) (hdb : (x == ("__debug__" : Str)) = false := by decide) (he : starEach (e :: es) X.env = (false, eval e X.env) :: starEach es X.env := by rfl) (hpl : (backTo pos (starEach es X.env)).any (·.1) = false := by rfl) :
    VE X (.Call (.Name x p) (e :: es) [] pos) (mCallV fm io ms) := (pe_call F hr hg hm hk hb .nil pass0 ha hdb he hpl).imp fun _ _ _ => callV_run
theorem ve_callF (io : Option Nat) (F : FnOk X.prog X.w X.K X.mg X.base CX0 k f fd ps (spF X.K fm)) (hr : Room k X.A) (hm : X.mg x = some (.ref f)) (hk : PySem.W.keepIn X.K (.ref f) = true) (hb : Binds X.K fd ps [])
    (ha : VA X (e :: es) ms) (hg : Gl X x := by rfl) (hdb : (x == ("__debug__" : Str)) = false := by decide) (he : starEach (e :: es) X.env = (false, eval e X.env) :: starEach es X.env := by rfl) (hpl : (backTo pos (starEach es X.env)).any (·.1) = false := by rfl) :
    VE X (.Call (.Name x p) (e :: es) [] pos) (mCallF fm io ms) := (pe_call F hr hg hm hk hb .nil pass0 ha hdb he hpl).imp fun _ _ _ => callF_run
end
section
variable {X : Cx} {K : PySem.W.Frag}
theorem opr_or {f : Value → Value → Sem Value} {r r' : R2} (h : OpR X f r) (h' : OpR X f r') : OpR X f (fun x y H Q => r x y H Q ∨ r' x y H Q) := by
  intro pins s σ H x y v u Q I rx ry q
  rcases q with q | q
  · exact h pins s σ H x y v u Q I rx ry q
  · exact h' pins s σ H x y v u Q I rx ry q
def gAdd : PyData → PyData → Option Res
  | .int i, .int j => some (.dat (.int (i + j)))
  | .str x, .str y => if x.length + y.length ≤ 100000 then some (.dat (.str (x ++ y))) else none
  | .list xs, .list ys => if xs.length + ys.length ≤ 100000 then some (.new (.lst (xs ++ ys))) else none
  | _, _ => none
def rAdd3 : R2 := fun x y H Q => (rI0 (fun i j => .int (i + j)) x y H Q) ∨ ((∃ i j, x = .str i ∧ y = .str j ∧ i.length + j.length ≤ sizeLine ∧ Q (.str (i ++ j)) H) ∨ rCat x y H Q)
theorem or_add : OpR X (binaryOp .Add) rAdd3 := opr_or op_add (opr_or op_add_str op_cat)
theorem od_add : OpD K rAdd3 gAdd := by
  intro Hk H x y dx dy res Q e vx vy h q
  unfold gAdd at h
  split at h
  · cases h
    exact .inl ⟨_, _, vx.int, vy.int, q _ _ (.inl ⟨rfl, .int _⟩)⟩
  · split at h
    · rename_i hz
      cases h
      exact .inr (.inl ⟨_, _, vx.str, vy.str, sz_of hz, q _ _ (.inl ⟨rfl, .str _⟩)⟩)
    · cases h
  · split at h
    · rename_i hz
      cases h
      obtain ⟨a, vs, rfl, h1, h2⟩ := vx.list e
      obtain ⟨b, ws, rfl, h3, h4⟩ := vy.list e
      exact .inr (.inr ⟨a, b, vs, ws, rfl, rfl, h1, h3, by rw [h2.len, h4.len]; exact sz_of hz, fun p hp => q _ _ ⟨p, _, rfl, hp, rfl, h2.append h4⟩⟩)
    · cases h
  · cases h
def gMinus : PyData → PyData → Option Res
  | .int i, .int j => some (.dat (.int (i - j)))
  | _, _ => none
theorem od_sub : OpD K (rI0 (fun i j => .int (i - j))) gMinus := by
  intro Hk H x y dx dy res Q e vx vy h q
  unfold gMinus at h
  split at h
  · cases h
    exact ⟨_, _, vx.int, vy.int, q _ _ (.inl ⟨rfl, .int _⟩)⟩
  · cases h
def repD (ds : List PyData) (k : Int) : List PyData := (List.replicate k.toNat ds).flatten
def gMul : PyData → PyData → Option Res
  | .int i, .int j => if (-(2 ^ 64) < i ∧ i < 2 ^ 64) ∨ (-(2 ^ 64) < j ∧ j < 2 ^ 64) then some (.dat (.int (i * j))) else none
  | .list ds, .int k => if -(2 ^ 63) ≤ k ∧ k < 2 ^ 63 ∧ ds.length * k.toNat ≤ 100000 then some (.new (.lst (repD ds k))) else none
  | _, _ => none
def rMul2 : R2 := fun x y H Q => rI CMul (fun i j => .int (i * j)) x y H Q ∨ rRep x y H Q
theorem or_mul : OpR X (binaryOp .Mult) rMul2 := opr_or op_mul op_rep
theorem dv_rep {Hk : Hp} {vs : List V} {ds : List PyData} (h : DvAll K Hk vs ds) : ∀ n : Nat, DvAll K Hk (List.replicate n vs).flatten (List.replicate n ds).flatten
  | 0 => .nil
  | n + 1 => by
    rw [List.replicate_succ, List.replicate_succ, List.flatten_cons, List.flatten_cons]
    exact h.append (dv_rep h n)
theorem od_mul : OpD K rMul2 gMul := by
  intro Hk H x y dx dy res Q e vx vy h q
  unfold gMul at h
  split at h
  · split at h
    · rename_i hz
      cases h
      exact .inl ⟨_, _, vx.int, vy.int, hz, q _ _ (.inl ⟨rfl, .int _⟩)⟩
    · cases h
  · split at h
    · rename_i hz
      cases h
      obtain ⟨a, vs, rfl, h1, h2⟩ := vx.list e
      exact .inr ⟨a, _, vs, rfl, vy.int, h1, hz.1, hz.2.1, by rw [h2.len]; exact sz_of hz.2.2, fun p hp => q _ _ ⟨p, _, rfl, hp, rfl, dv_rep h2 _⟩⟩
    · cases h
  · cases h
def gDiv : PyData → PyData → Option Res
  | .int i, .int j => if 0 < j ∧ j < 1073741824 then some (.dat (.int (i / j))) else none
  | _, _ => none
theorem od_div : OpD K (rI CDiv (fun i j => .int (i / j))) gDiv := by
  intro Hk H x y dx dy res Q e vx vy h q
  unfold gDiv at h
  split at h
  · split at h
    · rename_i hz
      cases h
      exact ⟨_, _, vx.int, vy.int, hz, q _ _ (.inl ⟨rfl, .int _⟩)⟩
    · cases h
  · cases h
def gMod : PyData → PyData → Option Res
  | .int i, .int j => if 0 < j then some (.dat (.int (i % j))) else none
  | _, _ => none
theorem od_mod : OpD K (rI (fun _ j => 0 < j) (fun i j => .int (i % j))) gMod := by
  intro Hk H x y dx dy res Q e vx vy h q
  unfold gMod at h
  split at h
  · split at h
    · rename_i hz
      cases h
      exact ⟨_, _, vx.int, vy.int, hz, q _ _ (.inl ⟨rfl, .int _⟩)⟩
    · cases h
  · cases h
def gPow : PyData → PyData → Option Res
  | .int i, .int j => if 0 ≤ j ∧ j ≤ 1000000 ∧ i.natAbs < 2 ^ 64 then some (.dat (.int (i ^ j.toNat))) else none
  | _, _ => none
theorem od_pow : OpD K (rI CPow (fun i j => .int (i ^ j.toNat))) gPow := by
  intro Hk H x y dx dy res Q e vx vy h q
  unfold gPow at h
  split at h
  · split at h
    · rename_i hz
      cases h
      exact ⟨_, _, vx.int, vy.int, hz, q _ _ (.inl ⟨rfl, .int _⟩)⟩
    · cases h
  · cases h
def gNeg : PyData → Option Res
  | .int i => some (.dat (.int (-i)))
  | _ => none
theorem ud_neg : UnD K (rU fun i => .int (-i)) gNeg := by
  intro Hk H x dx res Q e vx h q
  unfold gNeg at h
  split at h
  · cases h
    exact ⟨_, vx.int, q _ _ (.inl ⟨rfl, .int _⟩)⟩
  · cases h
def gCmp (p : Int → Int → Bool) : PyData → PyData → Option Res
  | .int i, .int j => some (.dat (.bool (p i j)))
  | _, _ => none
theorem od_cmp {p : Int → Int → Bool} : OpD K (rI0 fun i j => .bl (p i j)) (gCmp p) := by
  intro Hk H x y dx dy res Q e vx vy h q
  unfold gCmp at h
  split at h
  · cases h
    exact ⟨_, _, vx.int, vy.int, q _ _ (.inl ⟨rfl, .bl _⟩)⟩
  · cases h
def scalD : PyData → PyData → Bool
  | .none, .none => true | .none, .int _ => true | .int _, .none => true | .none, .bool _ => true | .bool _, .none => true | .none, .str _ => true | .str _, .none => true
  | .int _, .int _ => true | .bool _, .bool _ => true | .str _, .str _ => true
  | .int _, .str _ => true | .str _, .int _ => true | .bool _, .str _ => true | .str _, .bool _ => true
  | _, _ => false
def gEq (neg : Bool) (dx dy : PyData) : Option Res := if (scalD dx dy || (SeqAt.shaped dx && SeqAt.shaped dy)) = true then some (.dat (.bool (neg ^^ PyData.eqv dx dy))) else none
def rEqU (K : PySem.W.Frag) : R2 := fun x y H Q => rEq x y H Q ∨ rEqD K x y H Q
def rNeU (K : PySem.W.Frag) : R2 := fun x y H Q => rNe x y H Q ∨ rNeD K x y H Q
theorem or_eq (hu : X.A.units + 64 < cLine) : OpR X (compareOp .Eq) (rEqU X.K) := opr_or op_eq (op_eqD hu)
theorem or_ne (hu : X.A.units + 64 < cLine) : OpR X (compareOp .NotEq) (rNeU X.K) := opr_or op_ne (op_neD hu)
theorem scal_eq {Hk H : Hp} {x y : V} {dx dy : PyData} (vx : View K Hk H x dx) (vy : View K Hk H y dy) (h : scalD dx dy = true) : scal x y = true ∧ decide (x = y) = PyData.eqv dx dy := by
  cases dx with
  | none =>
    rw [vx.non]
    cases dy with
    | none => rw [vy.non]; exact ⟨rfl, rfl⟩
    | int j => rw [vy.int]; exact ⟨rfl, rfl⟩
    | bool j => rw [vy.bool]; exact ⟨rfl, rfl⟩
    | str j => rw [vy.str]; exact ⟨rfl, rfl⟩
    | _ => cases h
  | int i =>
    rw [vx.int]
    cases dy with
    | none => rw [vy.non]; exact ⟨rfl, rfl⟩
    | int j => rw [vy.int]; exact ⟨rfl, dec_int⟩
    | str j => rw [vy.str]; exact ⟨rfl, rfl⟩
    | _ => cases h
  | bool i =>
    rw [vx.bool]
    cases dy with
    | none => rw [vy.non]; exact ⟨rfl, rfl⟩
    | bool j => rw [vy.bool]; exact ⟨rfl, dec_bl⟩
    | str j => rw [vy.str]; exact ⟨rfl, rfl⟩
    | _ => cases h
  | str i =>
    rw [vx.str]
    cases dy with
    | none => rw [vy.non]; exact ⟨rfl, rfl⟩
    | int j => rw [vy.int]; exact ⟨rfl, rfl⟩
    | bool j => rw [vy.bool]; exact ⟨rfl, rfl⟩
    | str j => rw [vy.str]; exact ⟨rfl, dec_str⟩
    | _ => cases h
  | list _ => cases dy <;> cases h
  | tuple _ => cases dy <;> cases h
  | dict _ => cases dy <;> cases h
theorem od_eq : OpD K (rEqU K) (gEq false) := by
  intro Hk H x y dx dy res Q e vx vy h q
  unfold gEq at h
  split at h
  · rename_i hz
    cases h
    rw [Bool.false_xor] at q
    rcases Bool.or_eq_true_iff.mp hz with hz | hz
    · obtain ⟨h1, h2⟩ := scal_eq vx vy hz
      refine .inl ⟨h1, ?_⟩
      rw [h2]
      exact q _ _ (.inl ⟨rfl, .bl _⟩)
    · rw [Bool.and_eq_true] at hz
      exact .inr ⟨dx, dy, (vx.dv e).dp _ _ (SeqAt.canLay_of_shaped hz.1), (vy.dv e).dp _ _ (SeqAt.canLay_of_shaped hz.2), hz.1, hz.2, q _ _ (.inl ⟨rfl, .bl _⟩)⟩
  · cases h
theorem od_ne : OpD K (rNeU K) (gEq true) := by
  intro Hk H x y dx dy res Q e vx vy h q
  unfold gEq at h
  split at h
  · rename_i hz
    cases h
    rw [Bool.true_xor] at q
    rcases Bool.or_eq_true_iff.mp hz with hz | hz
    · obtain ⟨h1, h2⟩ := scal_eq vx vy hz
      refine .inl ⟨h1, ?_⟩
      rw [h2]
      exact q _ _ (.inl ⟨rfl, .bl _⟩)
    · rw [Bool.and_eq_true] at hz
      exact .inr ⟨dx, dy, (vx.dv e).dp _ _ (SeqAt.canLay_of_shaped hz.1), (vy.dv e).dp _ _ (SeqAt.canLay_of_shaped hz.2), hz.1, hz.2, q _ _ (.inl ⟨rfl, .bl _⟩)⟩
  · cases h
def isNoneD : PyData → Bool
  | .none => true
  | _ => false
def gIsN (neg : Bool) : PyData → PyData → Option Res
  | d, .none => some (.dat (.bool (neg ^^ isNoneD d)))
  | _, _ => none
theorem isN_v {Hk H : Hp} {x : V} {dx : PyData} (vx : View K Hk H x dx) (e : Same Hk H) : decide (x = .non) = isNoneD dx := by
  have h := vx.dv e
  cases h <;> rfl
theorem od_isN : OpD K (fun x y H Q => y = .non ∧ Q (.bl (decide (x = .non))) H) (gIsN false) := by
  intro Hk H x y dx dy res Q e vx vy h q
  unfold gIsN at h
  split at h
  · cases h
    refine ⟨vy.non, ?_⟩
    rw [isN_v vx e]
    rw [Bool.false_xor] at q
    exact q _ _ (.inl ⟨rfl, .bl _⟩)
  · cases h
def gIx : PyData → PyData → Option Res
  | .list ds, .int i => (atI ds i).map .dat
  | .tuple ds, .int i => (atI ds i).map .dat
  | .str z, .int i => if z.length ≤ 100000 then (atI z.cps.toList i).map fun c => .dat (.str ⟨#[c]⟩) else none
  | _, _ => none
theorem at_dv {Hk : Hp} {vs : List V} {ds : List PyData} (h : DvAll K Hk vs ds) {i : Int} {d : PyData} (e : atI ds i = some d) : ∃ v, atI vs i = some v ∧ Dv K Hk v d := by
  unfold atI at e ⊢
  rw [h.len]
  obtain ⟨j, h1, h2⟩ := Option.bind_eq_some_iff.mp e
  obtain ⟨v, h3, h4⟩ := h.get j d h2
  exact ⟨v, by rw [h1]; exact h3, h4⟩
theorem od_ix : OpD K (rIx K) gIx := by
  intro Hk H x y dx dy res Q e vx vy h q
  unfold gIx at h
  split at h
  · obtain ⟨d, h1, rfl⟩ := Option.map_eq_some_iff.mp h
    obtain ⟨a, vs, rfl, g1, g2⟩ := vx.list e
    obtain ⟨v, g3, g4⟩ := at_dv g2 h1
    exact .inl ⟨a, vs, _, v, rfl, vy.int, SqL.of g1, g3, q _ _ (.inl ⟨rfl, g4⟩)⟩
  · obtain ⟨d, h1, rfl⟩ := Option.map_eq_some_iff.mp h
    obtain ⟨a, vs, rfl, g1, g2⟩ := vx.tup e
    obtain ⟨v, g3, g4⟩ := at_dv g2 h1
    exact .inr (.inl ⟨a, vs, _, v, rfl, vy.int, g1, g3, q _ _ (.inl ⟨rfl, g4⟩)⟩)
  · split at h
    · rename_i hz
      obtain ⟨c, h1, rfl⟩ := Option.map_eq_some_iff.mp h
      exact .inr (.inr ⟨_, _, c, vx.str, vy.int, sz_of hz, h1, q _ _ (.inl ⟨rfl, .str _⟩)⟩)
    · cases h
  · cases h
def cutD (ds : List PyData) (lo hi : Option Int) : List PyData := (ds.drop (HT.sIx ds.length 0 lo)).take (HT.sIx ds.length ds.length hi - HT.sIx ds.length 0 lo)
theorem cut_dv {Hk : Hp} {vs : List V} {ds : List PyData} (h : DvAll K Hk vs ds) (lo hi : Option Int) : DvAll K Hk (cutV vs lo hi) (cutD ds lo hi) := by
  unfold cutV cutD
  rw [h.len]
  exact (h.drop _).take _
def tO (K : PySem.W.Frag) (m : MO) : TO := fun σ H Q => ∃ B env Hk o env', Rel K B env σ Hk H ∧ m env = some (o, env') ∧ ∀ Hk' H', Rel K B env' σ Hk' H' → KSame Hk Hk' → Q o H'
def mNoPart : MO := fun env => some (none, env)
def mPart (m : ME) : MO := fun env => (m env).bind fun p => match p.1 with
  | .dat (.int i) => some (some i, p.2)
  | _ => none
abbrev VO (X : Cx) (e : Option Expr) (m : MO) : Prop := PO X e (tO X.K m)
theorem vo_none : VO X none mNoPart := po_none.imp fun σ H Q h => by
  obtain ⟨B, env, Hk, o, env', R, hm, k⟩ := h
  cases hm
  exact k Hk H R (.refl _)
theorem vo_some {e : Expr} {m : ME} (h : VE X e m) : VO X (some e) (mPart m) := (po_some h).imp fun σ H Q h => by
  obtain ⟨B, env, Hk, o, env', R, hm, k⟩ := h
  obtain ⟨⟨r, e1⟩, h1, hm⟩ := Option.bind_eq_some_iff.mp hm
  refine ⟨B, env, Hk, r, e1, R, h1, fun v Hk1 H1 R1 s1 o1 => ?_⟩
  cases r with
  | new c => cases hm
  | slt i => cases hm
  | pv p => cases hm
  | dat d =>
    cases d with
    | int i =>
      cases hm
      cases o1
      exact ⟨i, rfl, k Hk1 H1 R1 s1⟩
    | _ => cases hm
def SlD (K : PySem.W.Frag) (r : V → Option Int → Option Int → Hp → VK → Prop) (g : PyData → Option Int → Option Int → Option Res) : Prop := ∀ (Hk H : Hp) (x : V) (dx : PyData) (lo hi : Option Int) (res : Res) (Q : VK), Same Hk H → View K Hk H x dx → g dx lo hi = some res → (∀ v H', Out K Hk H res v H' → Q v H') → r x lo hi H Q
def mSl (g : PyData → Option Int → Option Int → Option Res) (m : ME) (ml mh : MO) : ME := fun env => (m env).bind fun p => (ml p.2).bind fun a => (mh a.2).bind fun b => (rdv b.2 (stab p.1)).bind fun dx => (g dx a.1 b.1).map fun r => (r, b.2)
theorem sl_run {r : V → Option Int → Option Int → Hp → VK → Prop} {g : PyData → Option Int → Option Int → Option Res} {m : ME} {ml mh : MO} (hg : SlD K r g) {σ : St} {H : Hp} {Q : VK} (h : tE K (mSl g m ml mh) σ H Q) : tSl r (tE K m) (tO K ml) (tO K mh) σ H Q := by
  obtain ⟨B, env, Hk, res, env', R, hm, k⟩ := h
  obtain ⟨⟨x, e1⟩, h1, hm⟩ := Option.bind_eq_some_iff.mp hm
  obtain ⟨⟨lo, e2⟩, h2, hm⟩ := Option.bind_eq_some_iff.mp hm
  obtain ⟨⟨hi, e3⟩, h3, hm⟩ := Option.bind_eq_some_iff.mp hm
  obtain ⟨dx, h4, hm⟩ := Option.bind_eq_some_iff.mp hm
  obtain ⟨res', h5, hm⟩ := Option.map_eq_some_iff.mp hm
  cases hm
  refine ⟨B, env, Hk, x, e1, R, h1, fun v Hk1 H1 R1 s1 o1 => ?_⟩
  obtain ⟨Hk1', R1', s1', o1'⟩ := R1.stab o1
  refine ⟨B, e1, Hk1', lo, e2, R1', h2, fun Hk2 H2 R2 s2 => ?_⟩
  refine ⟨B, e2, Hk2, hi, e3, R2, h3, fun Hk3 H3 R3 s3 => ?_⟩
  refine hg Hk3 H3 v dx lo hi res Q R3.ex (R3.view ((o1'.mono s2).mono s3) h4) h5 fun z H4 out => ?_
  obtain ⟨Hk4, R4, s4, o4⟩ := R3.out out
  exact k z Hk4 H4 R4 ((((s1.trans s1').trans s2).trans s3).trans s4) o4
theorem ve_slice {r : V → Option Int → Option Int → Hp → VK → Prop} {g : PyData → Option Int → Option Int → Option Res} {e : Expr} {lo hi : Option Expr} {m : ME} {ml mh : MO} {p2 pos : Pos} (hr : SlR X r) (hg : SlD X.K r g) (he : VE X e m) (hl : VO X lo ml) (hu : VO X hi mh) : VE X (.Subscript e (.Slice lo hi none p2) pos) (mSl g m ml mh) :=
  (pe_slice hr he hl hu).imp fun _ _ _ => sl_run hg
def gSlL : PyData → Option Int → Option Int → Option Res
  | .list ds, lo, hi => some (.new (.lst (cutD ds lo hi)))
  | _, _, _ => none
theorem sd_list : SlD K (rSlL K) gSlL := by
  intro Hk H x dx lo hi res Q e vx h q
  unfold gSlL at h
  split at h
  · cases h
    obtain ⟨a, vs, rfl, g1, g2⟩ := vx.list e
    exact ⟨a, vs, rfl, SqL.of g1, fun p hp => q _ _ ⟨p, _, rfl, hp, rfl, cut_dv g2 lo hi⟩⟩
  · cases h
def mSlScr (i : Nat) (ml mh : MO) : ME := fun env => match env[i]? with
  | some (.scr ns) => (ml env).bind fun a => (mh a.2).map fun b => (.new (.lst (cutD (ns.map .int) a.1 b.1)), b.2)
  | _ => none
theorem dv_ints {Hk : Hp} : ∀ ns : List Int, DvAll K Hk (ns.map V.int) (ns.map .int)
  | [] => .nil
  | n :: ns => .cons (.int n) (dv_ints ns)
theorem slScr_run {i : Nat} {ml mh : MO} {σ : St} {H : Hp} {Q : VK} (h : tE K (mSlScr i ml mh) σ H Q) : tSl (rSlL K) (tVar i) (tO K ml) (tO K mh) σ H Q := by
  obtain ⟨B, env, Hk, res, env', R, hm, k⟩ := h
  unfold mSlScr at hm
  split at hm
  · rename_i ns he
    obtain ⟨⟨lo, e2⟩, h2, hm⟩ := Option.bind_eq_some_iff.mp hm
    obtain ⟨⟨hi, e3⟩, h3, hm⟩ := Option.map_eq_some_iff.mp hm
    cases hm
    obtain ⟨o, g1, a, rfl, g2⟩ := R.slot i _ he
    refine ⟨_, g1, B, env, Hk, lo, e2, R, h2, fun Hk2 H2 R2 s2 => ?_⟩
    refine ⟨B, e2, Hk2, hi, _, R2, h3, fun Hk3 H3 R3 s3 => ?_⟩
    refine ⟨a, _, rfl, R3.ex.seq ((s2.trans s3).seq g2), fun p hp => ?_⟩
    obtain ⟨Hk4, R4, s4, o4⟩ := R3.out (r := .new (.lst (cutD (ns.map .int) lo hi))) ⟨p, _, rfl, hp, rfl, cut_dv (dv_ints ns) lo hi⟩
    exact k _ Hk4 _ R4 ((s2.trans s3).trans s4) o4
  · cases hm
theorem ve_sliceScr (i : Nat) {x : Str} {lo hi : Option Expr} {ml mh : MO} {p1 p2 pos : Pos} (hl : VO X lo ml) (hu : VO X hi mh) (hN : X.N[i]? = some x := by rfl) (hv : Vis X.env.scope x := by first | exact Or.inl rfl | exact Or.inr (Or.inl rfl) | exact Or.inr (Or.inr rfl)) (hd : (x == ("__debug__" : Str)) = false := by decide)
    (hcd : (x == ("__classdict__" : Str)) = false := by decide) : VE X (.Subscript (.Name x p1) (.Slice lo hi none p2) pos) (mSlScr i ml mh) := (pe_slice sl_list (pe_var hN hv hd hcd) hl hu).imp fun _ _ _ => slScr_run
def gLen : List PyData → Option Res
  | [.list ds] => some (.dat (.int ds.length))
  | [.tuple ds] => some (.dat (.int ds.length))
  | [.str x] => if x.length ≤ 100000 then some (.dat (.int x.length)) else none
  | _ => none
theorem cd_len : CallD K (fun xs H Q => ∃ x n, xs = [x] ∧ LenV K x H n ∧ Q (.int n) H) gLen := by
  intro Hk H vs ds res Q e hv h q
  unfold gLen at h
  split at h
  · cases h
    cases hv with
    | cons v1 v2 =>
      cases v2
      obtain ⟨a, ws, rfl, g1, g2⟩ := v1.list e
      exact ⟨_, _, rfl, .inl ⟨ws, SqL.of g1, rfl⟩, by rw [g2.len]; exact q _ _ (.inl ⟨rfl, .int _⟩)⟩
  · cases h
    cases hv with
    | cons v1 v2 =>
      cases v2
      obtain ⟨a, ws, rfl, g1, g2⟩ := v1.tup e
      exact ⟨_, _, rfl, .inr ⟨ws, g1, rfl⟩, by rw [g2.len]; exact q _ _ (.inl ⟨rfl, .int _⟩)⟩
  · split at h
    · rename_i hz
      cases h
      cases hv with
      | cons v1 v2 =>
        cases v2
        rw [v1.str]
        exact ⟨_, _, rfl, ⟨sz_of hz, rfl⟩, q _ _ (.inl ⟨rfl, .int _⟩)⟩
    · cases h
  · cases h
def gInt1 (f : Int → Int) : List PyData → Option Res
  | [.int i] => some (.dat (.int (f i)))
  | _ => none
theorem cd_int1 {f : Int → Int} : CallD K (fun xs H Q => ∃ i, xs = [.int i] ∧ Q (.int (f i)) H) (gInt1 f) := by
  intro Hk H vs ds res Q e hv h q
  unfold gInt1 at h
  split at h
  · cases h
    cases hv with
    | cons v1 v2 =>
      cases v2
      rw [v1.int]
      exact ⟨_, rfl, q _ _ (.inl ⟨rfl, .int _⟩)⟩
  · cases h
def gInt2 (f : Int → Int → Int) : List PyData → Option Res
  | [.int i, .int j] => some (.dat (.int (f i j)))
  | _ => none
theorem cd_int2 {f : Int → Int → Int} : CallD K (fun xs H Q => ∃ i j, xs = [.int i, .int j] ∧ Q (.int (f i j)) H) (gInt2 f) := by
  intro Hk H vs ds res Q e hv h q
  unfold gInt2 at h
  split at h
  · cases h
    cases hv with
    | cons v1 v2 =>
      cases v2 with
      | cons v2 v3 =>
        cases v3
        rw [v1.int, v2.int]
        exact ⟨_, _, rfl, q _ _ (.inl ⟨rfl, .int _⟩)⟩
  · cases h
def gInt : List PyData → Option Res
  | [.int i] => some (.dat (.int i))
  | [.bool b] => some (.dat (.int (if b then 1 else 0)))
  | _ => none
theorem cd_int : CallD K (fun xs H Q => (∃ i, xs = [.int i] ∧ Q (.int i) H) ∨ ∃ k, xs = [.bl k] ∧ Q (.int (if k then 1 else 0)) H) gInt := by
  intro Hk H vs ds res Q e hv h q
  unfold gInt at h
  split at h
  · cases h
    cases hv with
    | cons v1 v2 =>
      cases v2
      rw [v1.int]
      exact .inl ⟨_, rfl, q _ _ (.inl ⟨rfl, .int _⟩)⟩
  · cases h
    cases hv with
    | cons v1 v2 =>
      cases v2
      rw [v1.bool]
      exact .inr ⟨_, rfl, q _ _ (.inl ⟨rfl, .int _⟩)⟩
  · cases h
def boolsD : List PyData → Option (List Bool)
  | [] => some []
  | .bool i :: ds => (boolsD ds).map (i :: ·)
  | _ => none
theorem bools_dv {Hk : Hp} : ∀ {ds : List PyData} {vs : List V} {ns : List Bool}, DvAll K Hk vs ds → boolsD ds = some ns → vs = ns.map V.bl
  | [], _, ns, .nil, h => by cases h; rfl
  | .bool i :: ds, _, ns, .cons h1 h2, h => by
    obtain ⟨ms, e1, e2⟩ := Option.map_eq_some_iff.mp h
    subst e2
    cases h1
    rw [bools_dv h2 e1]
    rfl
  | .none :: ds, _, ns, .cons h1 h2, h => by cases h
  | .int _ :: ds, _, ns, .cons h1 h2, h => by cases h
  | .str _ :: ds, _, ns, .cons h1 h2, h => by cases h
  | .list _ :: ds, _, ns, .cons h1 h2, h => by cases h
  | .tuple _ :: ds, _, ns, .cons h1 h2, h => by cases h
  | .dict _ :: ds, _, ns, .cons h1 h2, h => by cases h
def gAll : List PyData → Option Res
  | [.list ds] => (boolsD ds).map fun ns => .dat (.bool (ns.all id))
  | _ => none
theorem cd_all : CallD K (rAll K) gAll := by
  intro Hk H vs ds res Q e hv h q
  unfold gAll at h
  split at h
  · obtain ⟨ns, h1, rfl⟩ := Option.map_eq_some_iff.mp h
    cases hv with
    | cons v1 v2 =>
      cases v2
      obtain ⟨a, ws, rfl, g1, g2⟩ := v1.list e
      rw [bools_dv g2 h1] at g1
      exact ⟨a, ns, rfl, SqL.of g1, q _ _ (.inl ⟨rfl, .bl _⟩)⟩
  · cases h
def gList : List PyData → Option Res
  | [.list ds] => some (.new (.lst ds))
  | [.tuple ds] => some (.new (.lst ds))
  | _ => none
theorem cd_list : CallD K (fun xs H Q => ∃ p ys, xs = [.ref p] ∧ (SqL K H p ys ∨ SqT K H p ys) ∧ ∀ l, H l = none → Q (.ref l) (upd H l (.lst ys))) gList := by
  intro Hk H vs ds res Q e hv h q
  unfold gList at h
  split at h
  · cases h
    cases hv with
    | cons v1 v2 =>
      cases v2
      obtain ⟨a, ws, rfl, g1, g2⟩ := v1.list e
      exact ⟨a, ws, rfl, .inl (SqL.of g1), fun l hl => q _ _ ⟨l, ws, rfl, hl, rfl, g2⟩⟩
  · cases h
    cases hv with
    | cons v1 v2 =>
      cases v2
      obtain ⟨a, ws, rfl, g1, g2⟩ := v1.tup e
      exact ⟨a, ws, rfl, .inr g1, fun l hl => q _ _ ⟨l, ws, rfl, hl, rfl, g2⟩⟩
  · cases h
def mRange1 (ms : MA) : MI := fun env => (ms env).bind fun p => (rdAll p.2 p.1).bind fun ds => match ds with
  | [.int j] => if -(2 ^ 62) ≤ j ∧ j < 2 ^ 62 then some ((List.range j.toNat).map fun i => .int (i : Nat), p.2) else none
  | _ => none
theorem iter_range {lo : Int} {n : Nat} {Hk : Hp} : IterOk K Hk (Itr lo n) ((List.range n).map fun i => .int (lo + (i : Nat))) := by
  intro Hk2 H2 _ _ i
  refine ⟨fun d hd => ?_, fun hl => ?_⟩
  · rw [List.getElem?_map] at hd
    obtain ⟨j, h1, rfl⟩ := Option.map_eq_some_iff.mp hd
    obtain ⟨h2, h3⟩ := List.getElem?_eq_some_iff.mp h1
    rw [List.getElem_range] at h3
    subst h3
    rw [List.length_range] at h2
    refine ⟨h2, fun x H' y => ?_⟩
    obtain ⟨rfl, rfl⟩ := y
    exact .inl ⟨rfl, .int _⟩
  · rw [List.length_map, List.length_range] at hl
    exact hl
theorem range1_run {ms : MA} {σ : St} {H : Hp} {R : It → Hp → Prop} (h : tI K (mRange1 ms) σ H R) : iRng1 (tA K ms) σ H R := by
  obtain ⟨B, env, Hk, ds, env', R0, hm, k⟩ := h
  obtain ⟨⟨rs, e1⟩, h1, hm⟩ := Option.bind_eq_some_iff.mp hm
  obtain ⟨es, h2, hm⟩ := Option.bind_eq_some_iff.mp hm
  refine ⟨B, env, Hk, rs, e1, R0, h1, fun vs Hk1 H1 R1 s1 o1 => ?_⟩
  have hv := R1.views o1 h2
  split at hm
  · rename_i j
    split at hm
    · rename_i hz
      cases hm
      cases hv with
      | cons v1 v2 =>
        cases v2
        rw [v1.int]
        refine ⟨j, rfl, hz.1, hz.2, k _ Hk1 H1 R1 s1 ?_⟩
        have := iter_range (K := K) (lo := 0) (n := j.toNat) (Hk := Hk1)
        simpa using this
    · cases hm
  · cases hm
theorem vi_range1 {tg a : Expr} {ms : MA} {p pos : Pos} (hm : X.mg "range" = none) (ha : VA X [a] ms) (hg : Gl X "range" := by rfl) (hs : starEach [a] X.env = [(false, eval a X.env)] := by rfl) : VI X tg (.Call (.Name "range" p) [a] [] pos) (mRange1 ms) := (pi_range1 hg hm ha hs).imp fun _ _ _ => range1_run
def mItL (m : ME) : MI := fun env => (mFrz m env).bind fun p => match p.1 with
  | .dat (.list ds) => some (ds, p.2)
  | _ => none
theorem iter_list {a : Addr} {xs : List V} {ds : List PyData} {Hk : Hp} (h : Hk a = some (.lst xs)) (hd : DvAll K Hk xs ds) : IterOk K Hk (Itl K a) ds := by
  intro Hk2 H2 s2 e2 i
  have hq : SqL K H2 a xs := SqL.of (e2 _ _ (s2 _ _ h))
  refine ⟨fun d hi => ?_, fun hl => ⟨xs, hq, by rw [hd.len]; exact hl⟩⟩
  obtain ⟨v, g1, g2⟩ := hd.get i d hi
  refine ⟨⟨xs, v, hq, g1⟩, fun x H' y => ?_⟩
  obtain ⟨rfl, y⟩ := y
  have := y xs hq
  rw [g1] at this
  cases this
  exact .inl ⟨rfl, dv_mono s2 _ _ g2⟩
theorem itL_run {m : ME} {σ : St} {H : Hp} {R : It → Hp → Prop} (h : tI K (mItL m) σ H R) : iList K (tE K (mFrz m)) σ H R := by
  obtain ⟨B, env, Hk, ds, env', R0, hm, k⟩ := h
  obtain ⟨⟨r, e1⟩, h1, hm⟩ := Option.bind_eq_some_iff.mp hm
  refine ⟨B, env, Hk, r, e1, R0, h1, fun v Hk1 H1 R1 s1 o1 => ?_⟩
  cases r with
  | new c => cases hm
  | slt i => cases hm
  | pv p => cases hm
  | dat d =>
    cases d with
    | list ds =>
      cases hm
      cases o1 with
      | lst g1 g2 => exact ⟨_, rfl, ⟨_, SqL.of (R1.ex _ _ g1)⟩, k _ Hk1 H1 R1 s1 (iter_list g1 g2)⟩
    | _ => cases hm
theorem vi_list {tg e : Expr} {m : ME} (h : VE X e m) : VI X tg e (mItL m) := (pi_list (ve_frz h)).imp fun _ _ _ => itL_run
def mItT (m : ME) : MI := fun env => (mFrz m env).bind fun p => match p.1 with
  | .dat (.tuple ds) => some (ds, p.2)
  | _ => none
theorem iter_tup {a : Addr} {xs : List V} {ds : List PyData} {Hk : Hp} (h : SqT K Hk a xs) (hd : DvAll K Hk xs ds) : IterOk K Hk (Itt K a) ds := by
  intro Hk2 H2 s2 e2 i
  have hq : SqT K H2 a xs := same_tup e2 (same_tup s2 h)
  refine ⟨fun d hi => ?_, fun hl => ⟨xs, hq, by rw [hd.len]; exact hl⟩⟩
  obtain ⟨v, g1, g2⟩ := hd.get i d hi
  refine ⟨⟨xs, v, hq, g1⟩, fun x H' y => ?_⟩
  obtain ⟨rfl, y⟩ := y
  have := y xs hq
  rw [g1] at this
  cases this
  exact .inl ⟨rfl, dv_mono s2 _ _ g2⟩
theorem itT_run {m : ME} {σ : St} {H : Hp} {R : It → Hp → Prop} (h : tI K (mItT m) σ H R) : iTup K (tE K (mFrz m)) σ H R := by
  obtain ⟨B, env, Hk, ds, env', R0, hm, k⟩ := h
  obtain ⟨⟨r, e1⟩, h1, hm⟩ := Option.bind_eq_some_iff.mp hm
  refine ⟨B, env, Hk, r, e1, R0, h1, fun v Hk1 H1 R1 s1 o1 => ?_⟩
  cases r with
  | new c => cases hm
  | slt i => cases hm
  | pv p => cases hm
  | dat d =>
    cases d with
    | tuple ds =>
      cases hm
      cases o1 with
      | tup g1 g2 => exact ⟨_, rfl, ⟨_, same_tup R1.ex g1⟩, k _ Hk1 H1 R1 s1 (iter_tup g1 g2)⟩
    | _ => cases hm
theorem vi_tup {tg e : Expr} {m : ME} (h : VE X e m) : VI X tg e (mItT m) := (pi_tup (ve_frz h)).imp fun _ _ _ => itT_run
def enumD : Nat → List PyData → List PyData
  | _, [] => []
  | i, d :: ds => .tuple [.int (i : Nat), d] :: enumD (i + 1) ds
theorem enumD_len : ∀ (i : Nat) (ds : List PyData), (enumD i ds).length = ds.length
  | _, [] => rfl
  | i, d :: ds => by
    show (enumD (i + 1) ds).length + 1 = _
    rw [enumD_len (i + 1) ds]
    rfl
theorem enumD_get : ∀ (k : Nat) (ds : List PyData) (i : Nat) (d : PyData), (enumD k ds)[i]? = some d → ∃ x, ds[i]? = some x ∧ d = .tuple [.int ((k + i : Nat) : Int), x]
  | _, [], i, d, h => by simp [enumD] at h
  | k, x :: ds, 0, d, h => by
    simp [enumD] at h
    exact ⟨x, rfl, by rw [← h]; simp⟩
  | k, x :: ds, i + 1, d, h => by
    obtain ⟨y, h1, h2⟩ := enumD_get (k + 1) ds i d (by simpa [enumD] using h)
    exact ⟨y, by simpa using h1, by rw [h2]; congr 3; omega⟩
def mEnum (ms : MA) : MI := fun env => (ms env).bind fun p => match p.1 with
  | [.dat (.list ds)] => some (enumD 0 ds, p.2)
  | _ => none
theorem enum_run {ms : MA} {σ : St} {H : Hp} {R : It → Hp → Prop} (h : tI K (mEnum ms) σ H R) : iEnum K (tA K ms) σ H R := by
  obtain ⟨B, env, Hk, ds, env', R0, hm, k⟩ := h
  obtain ⟨⟨rs, e1⟩, h1, hm⟩ := Option.bind_eq_some_iff.mp hm
  refine ⟨B, env, Hk, rs, e1, R0, h1, fun vs Hk1 H1 R1 s1 o1 => ?_⟩
  split at hm
  · rename_i xs he
    cases hm
    have he : rs = [.dat (.list xs)] := he
    subst he
    cases o1 with
    | cons o1 o2 =>
      cases o2
      cases o1 with
      | lst g1 g2 =>
        refine ⟨_, _, rfl, SqL.of (R1.ex _ _ g1), k _ Hk1 H1 R1 s1 ?_⟩
        intro Hk2 H2 s2 e2 i
        refine ⟨fun d hi => ?_, fun hl => ⟨_, SqL.of (e2 _ _ (s2 _ _ g1)), by rw [g2.len]; rw [enumD_len] at hl; exact hl⟩⟩
        obtain ⟨x, q1, rfl⟩ := enumD_get 0 _ i d hi
        obtain ⟨v, q2, q3⟩ := g2.get i x q1
        refine ⟨⟨_, v, SqL.of (e2 _ _ (s2 _ _ g1)), q2⟩, fun y H' z => ?_⟩
        obtain ⟨T, v', rfl, hT, rfl, hx⟩ := z
        have := hx _ (SqL.of (e2 _ _ (s2 _ _ g1)))
        rw [q2] at this
        cases this
        refine .inr ⟨T, _, _, rfl, rfl, hT, rfl, .cons ?_ (.cons (dv_mono s2 _ _ q3) .nil)⟩
        rw [Nat.zero_add]
        exact .int _
  · cases hm
theorem vi_enum {e : Expr} {ms : MA} {p pos tpos : Pos} {elts : List Expr} {kk : Nat} (hm : X.mg "enumerate" = none) (ha : VA X [e] ms) (hg : Gl X "enumerate" := by rfl) (hs : starEach [e] X.env = [(false, eval e X.env)] := by rfl) :
    VI X (.Tuple elts kk tpos) (.Call (.Name "enumerate" p) [e] [] pos) (mEnum ms) := (pi_enum hg hm ha hs).imp fun _ _ _ => enum_run
def zipD : List PyData → List PyData → List PyData
  | x :: xs, y :: ys => .tuple [x, y] :: zipD xs ys
  | _, _ => []
theorem zipD_get : ∀ (xs ys : List PyData) (i : Nat) (d : PyData), (zipD xs ys)[i]? = some d → ∃ x y, xs[i]? = some x ∧ ys[i]? = some y ∧ d = .tuple [x, y]
  | [], _, i, d, h => by simp [zipD] at h
  | _ :: _, [], i, d, h => by simp [zipD] at h
  | x :: xs, y :: ys, 0, d, h => by
    simp [zipD] at h
    exact ⟨x, y, rfl, rfl, h.symm⟩
  | x :: xs, y :: ys, i + 1, d, h => by
    obtain ⟨a, b, h1, h2, h3⟩ := zipD_get xs ys i d (by simpa [zipD] using h)
    exact ⟨a, b, by simpa using h1, by simpa using h2, h3⟩
theorem zipD_len : ∀ (xs ys : List PyData), (zipD xs ys).length = min xs.length ys.length
  | [], _ => by simp [zipD]
  | _ :: _, [] => by simp [zipD]
  | x :: xs, y :: ys => by
    show (zipD xs ys).length + 1 = _
    rw [zipD_len xs ys, List.length_cons, List.length_cons]
    omega
end
def lstAt (env : Sl) (i : Nat) : Option (Slot × List PyData) := match env[i]? with
  | some (.own (.lst ds)) => some (.own (.lst ds), ds)
  | some (.io k (.lst ds)) => some (.io k (.lst ds), ds)
  | _ => none
section
variable {X : Cx} {K : PySem.W.Frag} {B : Fb} {env : Sl} {σ : St} {Hk : Kn} {H : Hp}
theorem Rel.lstAt (R : Rel K B env σ Hk H) {i : Nat} {s : Slot} {ds : List PyData} (h : Cm.lstAt env i = some (s, ds)) : ∃ a vs, env[i]? = some s ∧ s.mut ∧ σ[i]? = some (some (V.ref a)) ∧ H a = some (.lst vs) ∧ DvAll K Hk vs ds := by
  unfold Cm.lstAt at h
  split at h
  · rename_i ds' e
    cases h
    obtain ⟨o, g1, a, rfl, q1, q2, vs, q3, q4⟩ := R.slot i _ e
    exact ⟨a, vs, e, trivial, g1, q3, q4⟩
  · rename_i k ds' e
    cases h
    obtain ⟨o, g1, a, rfl, q1, q2, vs, q3, q4⟩ := R.slot i _ e
    exact ⟨a, vs, e, trivial, g1, q3, q4⟩
  · cases h
def MutD (K : PySem.W.Frag) (r : V → List V → Hp → VK → Prop) (f : List PyData → List PyData → Option (List PyData × PyData)) : Prop := ∀ (Hk H : Hp) (l : Addr) (vs ws : List V) (ds es ds' : List PyData) (ret : PyData) (Q : VK), Same Hk H → H l = some (.lst vs) → DvAll K Hk vs ds → DvAll K Hk ws es → f ds es = some (ds', ret) →
  (∀ vs' v, DvAll K Hk vs' ds' → Dv K Hk v ret → Q v (upd H l (.lst vs'))) → r (.ref l) ws H Q
def mMut (i : Nat) (f : List PyData → List PyData → Option (List PyData × PyData)) (ms : MA) : ME := fun env => (lstAt env i).bind fun _ => (ms env).bind fun p => (dats p.1).bind fun es => (lstAt p.2 i).bind fun q => (f q.2 es).map fun z => (.dat z.2, p.2.set i (q.1.put (.lst z.1)))
theorem mut_run {i : Nat} {r : V → List V → Hp → VK → Prop} {f : List PyData → List PyData → Option (List PyData × PyData)} {ms : MA} (hf : MutD K r f) {Q : VK} (h : tE K (mMut i f ms) σ H Q) : tBM K "list" r (tVar i) (tA K ms) σ H Q := by
  obtain ⟨B, env, Hk, res, env', R, hm, k⟩ := h
  obtain ⟨⟨s0, ds0⟩, h0, hm⟩ := Option.bind_eq_some_iff.mp hm
  obtain ⟨⟨rs, e1⟩, h1, hm⟩ := Option.bind_eq_some_iff.mp hm
  obtain ⟨es, h2, hm⟩ := Option.bind_eq_some_iff.mp hm
  obtain ⟨⟨s, ds⟩, h3, hm⟩ := Option.bind_eq_some_iff.mp hm
  obtain ⟨⟨ds', ret⟩, h4, hm⟩ := Option.map_eq_some_iff.mp hm
  cases hm
  obtain ⟨a, vs0, g1, g2, g3, g4, g5⟩ := R.lstAt h0
  refine ⟨_, g3, .inl ⟨rfl, vs0, SqL.of g4⟩, ?_⟩
  refine ⟨B, env, Hk, rs, e1, R, h1, fun ws Hk1 H1 R1 s1 o1 => ?_⟩
  obtain ⟨a', vs, q1, q2, q3, q4, q5⟩ := R1.lstAt h3
  rw [g3] at q3
  cases q3
  refine hf Hk1 H1 a vs ws ds es ds' ret Q R1.ex q4 q5 (o1.dats h2) h4 fun vs' v d1 d2 => ?_
  exact k v Hk1 _ (R1.change q1 q2 g3 ⟨vs', upd_same, d1⟩) s1 d2
theorem ve_mut {i : Nat} {x name : Str} {id : String} {r : V → List V → Hp → VK → Prop} {f : List PyData → List PyData → Option (List PyData × PyData)} {ms : MA} {e : Expr} {es : List Expr} {p apos cpos : Pos} (slot : PySem.Slot "list" name id) (hty : typeOf (.builtin id) = pure (.type "method_descriptor")) (hm : MtR X id r) (hf : MutD X.K r f) (ha : VA X (e :: es) ms)
    (hN : X.N[i]? = some x := by rfl) (hv : Vis X.env.scope x := by first | exact Or.inl rfl | exact Or.inr (Or.inl rfl) | exact Or.inr (Or.inr rfl)) (hd : (x == ("__debug__" : Str)) = false := by decide) (hcd : (x == ("__classdict__" : Str)) = false := by decide)
    (hbase : attributeBase (.Name x p) name X.env (eval (.Name x p) X.env) = eval (.Name x p) X.env := by rfl)
    (hfew : ((backTo cpos (starEach (e :: es) X.env)).all (fun x => !x.1) && (backToKw cpos (keywordEach [] X.env)).all (fun x => x.1.isSome)
      && decide ((e :: es).length + ([] : List Keyword).length + (if ([] : List Keyword).isEmpty then 0 else 1) < 30)) = true := by rfl)
    (hline : (apos.endLine == cpos.line) = true := by rfl) (hs : starEach (e :: es) X.env = (false, eval e X.env) :: starEach es X.env := by rfl) (hplain : (backTo cpos (starEach es X.env)).any (·.1) = false := by rfl) :
    VE X (.Call (.Attribute (.Name x p) name apos) (e :: es) [] cpos) (mMut i f ms) :=
  (pe_bm PySem.F.plainAttrs_list slot hty hm (pe_var hN hv hd hcd) ha hbase hfew hline hs hplain).imp fun _ _ _ => mut_run hf
def fApp : List PyData → List PyData → Option (List PyData × PyData)
  | ds, [d] => if ds.length < 100000 then some (ds ++ [d], .none) else none
  | _, _ => none
theorem md_append : MutD K rAppend fApp := by
  intro Hk H l vs ws ds es ds' ret Q e hl hd he h q
  unfold fApp at h
  split at h
  · split at h
    · rename_i hz
      cases h
      cases he with
      | cons h1 h2 =>
        cases h2
        exact ⟨l, vs, _, rfl, rfl, hl, by rw [hd.len]; exact Nat.lt_of_lt_of_le hz (by decide), q _ _ (hd.append (.cons h1 .nil)) .non⟩
    · cases h
  · cases h
def mgSub (i : Nat) (mi : ME) : MG := fun d env => (lstAt env i).bind fun _ => (mi env).bind fun p => match p.1 with
  | .dat (.int k) => (lstAt p.2 i).bind fun q => (ixN q.2.length k).map fun j => p.2.set i (q.1.put (.lst (q.2.set j d)))
  | _ => none
theorem gsub_run {i : Nat} {mi : ME} {v : V} {Q : St → Hp → Prop} (h : tG K [] (mgSub i mi) v σ H Q) : gSub (tVar i) (tE K mi) rSetL v σ H Q := by
  obtain ⟨B, env, Hk, d, env', R, hd, hm, k⟩ := h
  obtain ⟨⟨s0, ds0⟩, h0, hm⟩ := Option.bind_eq_some_iff.mp hm
  obtain ⟨⟨r, e1⟩, h1, hm⟩ := Option.bind_eq_some_iff.mp hm
  obtain ⟨a, vs0, g1, g2, g3, g4, g5⟩ := R.lstAt h0
  refine ⟨_, g3, B, env, Hk, r, e1, R, h1, fun w Hk1 H1 R1 s1 o1 => ?_⟩
  cases r with
  | new c => cases hm
  | slt i => cases hm
  | pv p => cases hm
  | dat dd =>
    cases dd with
    | int ki =>
      obtain ⟨⟨s, ds⟩, h2, hm⟩ := Option.bind_eq_some_iff.mp hm
      obtain ⟨j, h3, hm⟩ := Option.map_eq_some_iff.mp hm
      cases hm
      cases o1
      obtain ⟨a', vs, q1, q2, q3, q4, q5⟩ := R1.lstAt h2
      rw [g3] at q3
      cases q3
      refine ⟨a, vs, ki, j, rfl, rfl, q4, by rw [q5.len]; exact h3, ?_⟩
      exact k σ Hk1 _ (R1.change q1 q2 g3 ⟨_, upd_same, q5.set (dv_mono s1 _ _ hd) j⟩) s1 (fun _ _ => rfl) rfl
    | _ => cases hm
theorem vg_sub {i : Nat} {x : Str} {mi : ME} {ix : Expr} {p pos : Pos} (hi : VE X ix mi) (hN : X.N[i]? = some x := by rfl) (hv : Vis X.env.scope x := by first | exact Or.inl rfl | exact Or.inr (Or.inl rfl) | exact Or.inr (Or.inr rfl)) (hd : (x == ("__debug__" : Str)) = false := by decide) (hcd : (x == ("__classdict__" : Str)) = false := by decide)
    (ha : ∀ v, assign (.Subscript (.Name x p) ix pos) X.env v = (do
      let ov ← holding [v] (eval (.Name x p) X.env)
      let iv ← holding [v, ov] (eval ix X.env)
      standAt pos
      holding [v, ov, iv] (setItem ov iv v)
      release [v, ov, iv] []) := by intro _; rfl) : VG X (.Subscript (.Name x p) ix pos) [] (mgSub i mi) := (pg_sub (pe_var hN hv hd hcd) hi set_list ha).imp fun _ _ _ _ => gsub_run
def mAsg (m : ME) (g : MG) : MS := fun env => (mFrz m env).bind fun p => match p.1 with
  | .dat d => (g d p.2).map fun e => (.nx, e)
  | _ => none
theorem asg_run {m : ME} {g : MG} {js : List Nat} {W : WX} {D : Ends} (h : tS K W (mAsg m g) D σ H) : tAsg (tE K (mFrz m)) (tG K js g) D σ H := by
  obtain ⟨B, env, Hk, f, env', R, hm, k⟩ := h
  obtain ⟨⟨r, e1⟩, h1, hm⟩ := Option.bind_eq_some_iff.mp hm
  refine ⟨B, env, Hk, r, e1, R, h1, fun v Hk1 H1 R1 s1 o1 => ?_⟩
  cases r with
  | new c => cases hm
  | slt i => cases hm
  | pv p => cases hm
  | dat d =>
    obtain ⟨e2, h2, hm⟩ := Option.map_eq_some_iff.mp hm
    cases hm
    exact ⟨B, e1, Hk1, d, _, R1, o1, h2, fun σ' Hk2 H2 R2 s2 _ _ => k σ' Hk2 H2 R2 (s1.trans s2)⟩
theorem vs_asg {tg e : Expr} {m : ME} {g : MG} {js : List Nat} {pos : Pos} (he : VE X e m) (hg : VG X tg js g) (hs : swapsWithSole [tg] e pos.line X.env = pure false := by rfl) (hw : swappedStores [tg] e X.env = pure none := by rfl)
    (h1 : (assignEach [tg] X.env).map (·.2) = [assign tg X.env] := by rfl) : VS X (.Assign [tg] e pos) (mAsg m g) := fun W _ => (ps_asg (ve_frz he) hg hs hw h1).imp fun _ _ _ => asg_run
def tyN : PyData → String
  | .none => "NoneType"
  | .bool _ => "bool"
  | .int _ => "int"
  | .str _ => "str"
  | .list _ => "list"
  | .tuple _ => "tuple"
  | .dict _ => "dict"
theorem tyN_x {v : V} {d : PyData} (h : Dv K H v d) : TyX K H v (.type (tyN d)) := by
  cases h with
  | non => exact .base .non
  | bl b => exact .base (.bl b)
  | int b => exact .base (.int b)
  | str b => exact .base (.str b)
  | lst h1 h2 => exact .base (.lst h1)
  | tup h1 h2 =>
    rcases h1 with (h1 | ⟨o, h1⟩) | ⟨o, its, n, h1, h3, _⟩
    · exact .base (.tup h1)
    · exact .fTuple h1
    · exact .kTuple h1 h3
  | dct h1 h2 =>
    rcases h1 with h1 | ⟨o, h1⟩
    · exact .base (.dK h1)
    · exact .fDict h1
def mIsi (T : String) (m : ME) : ME := fun env => (m env).bind fun p => (rdv p.2 (stab p.1)).bind fun d => (kitB (tyN d) T).map fun b => (.dat (.bool b), p.2)
theorem isi_run {T : String} {m : ME} {Q : VK} (h : tE K (mIsi T m) σ H Q) : tCB (rIsi K) (tCons (tE K m) (tCons (tC (.ty T)) tNil)) σ H Q := by
  obtain ⟨B, env, Hk, res, env', R, hm, k⟩ := h
  obtain ⟨⟨r, e1⟩, h1, hm⟩ := Option.bind_eq_some_iff.mp hm
  obtain ⟨d, h2, hm⟩ := Option.bind_eq_some_iff.mp hm
  obtain ⟨b, h3, hm⟩ := Option.map_eq_some_iff.mp hm
  cases hm
  refine ⟨B, env, Hk, r, e1, R, h1, fun v Hk1 H1 R1 s1 o1 => ?_⟩
  obtain ⟨Hk1', R1', s1', o1'⟩ := R1.stab o1
  have vw := (R1'.view o1' h2).dv R1'.ex
  exact ⟨v, .ty T, _, _, b, rfl, .ty T, tyN_x vw, kit_ty h3, k _ Hk1' H1 R1' (s1.trans s1') (.bl b)⟩
theorem ve_isi {T : Str} {id : String} {e : Expr} {m : ME} {p p2 pos : Pos} (he : VE X e m) (hm : X.mg "isinstance" = none) (hm2 : X.mg T = none) (hv : bootBuiltins T = some (.type id)) (hg : Gl X "isinstance" := by rfl) (hg2 : Gl X T := by rfl) (hn : T ≠ "__name__" := by decide) (hdb : (T == ("__debug__" : Str)) = false := by decide) (hb : bootBuiltins "isinstance" = some (.builtin "isinstance") := by decide +kernel)
    (hs : starEach (e :: [.Name T p2]) X.env = (false, eval e X.env) :: starEach [.Name T p2] X.env := by rfl) (hs2 : starEach [.Name T p2] X.env = (false, eval (.Name T p2) X.env) :: starEach [] X.env := by rfl) (hpl : (backTo pos (starEach [.Name T p2] X.env)).any (·.1) = false := by rfl) :
    VE X (.Call (.Name "isinstance" p) [e, .Name T p2] [] pos) (mIsi id m) :=
  (pe_callB call_isi hg hm hb (pa_cons he (pa_cons (pe_bltn (v := .ty id) hg2 hm2 hv rfl hn hdb) pa_nil hs2) hs) (by decide) (by decide) hs hpl).imp fun _ _ _ => isi_run
def mIsi2 (S T : String) (m : ME) : ME := fun env => (m env).bind fun p => (rdv p.2 (stab p.1)).bind fun d => (kitB (tyN d) S).bind fun b => (kitB (tyN d) T).map fun c => (.dat (.bool (b || c)), p.2)
theorem isi2_run {S T : String} {m : ME} {Q : VK} (h : tE K (mIsi2 S T m) σ H Q) : tCB (rIsiT K) (tCons (tE K m) (tCons (tTup (tCons (tC (.ty S)) (tCons (tC (.ty T)) tNil))) tNil)) σ H Q := by
  obtain ⟨B, env, Hk, res, env', R, hm, k⟩ := h
  obtain ⟨⟨r, e1⟩, h1, hm⟩ := Option.bind_eq_some_iff.mp hm
  obtain ⟨d, h2, hm⟩ := Option.bind_eq_some_iff.mp hm
  obtain ⟨b, h3, hm⟩ := Option.bind_eq_some_iff.mp hm
  obtain ⟨c, h4, hm⟩ := Option.map_eq_some_iff.mp hm
  cases hm
  refine ⟨B, env, Hk, r, e1, R, h1, fun v Hk1 H1 R1 s1 o1 => ?_⟩
  obtain ⟨Hk1', R1', s1', o1'⟩ := R1.stab o1
  have vw := (R1'.view o1' h2).dv R1'.ex
  refine ⟨by show 2 ≤ sizeLine; decide, fun q hq => ?_⟩
  have s2 : Same H1 (upd H1 q (.tup [.ty S, .ty T])) := same_upd hq
  refine ⟨v, q, _, _, [.type S, .type T], b || c, rfl, upd_same, .cons (.ty S) (.cons (.ty T) .nil), tyN_x (dv_mono s2 _ _ vw), ?_, k _ Hk1' _ (R1'.laid hq) (s1.trans s1') (.bl _)⟩
  refine kitAny_cons (kit_ty h3) (fun hb => kitAny_cons (kit_ty h4) (fun hc => ?_) fun hc => by rw [hc, Bool.or_true]) fun hb => by rw [hb, Bool.true_or]
  rw [hb, hc]
  exact kitAny_nil
theorem ve_isi2 {S T : Str} {id1 id2 : String} {e : Expr} {m : ME} {p p1 p2 p3 pos : Pos} {kk} (he : VE X e m) (hm : X.mg "isinstance" = none) (hm1 : X.mg S = none) (hv1 : bootBuiltins S = some (.type id1)) (hm2 : X.mg T = none) (hv2 : bootBuiltins T = some (.type id2)) (hg : Gl X "isinstance" := by rfl) (hg1 : Gl X S := by rfl) (hg2 : Gl X T := by rfl) (hn1 : S ≠ "__name__" := by decide) (hdb1 : (S == ("__debug__" : Str)) = false := by decide) (hn2 : T ≠ "__name__" := by decide) (hdb2 : (T == ("__debug__" : Str)) = false := by decide) (hb : bootBuiltins "isinstance" = some (.builtin "isinstance") := by decide +kernel)
    (hs : starEach (e :: [.Tuple [.Name S p1, .Name T p2] kk p3]) X.env = (false, eval e X.env) :: starEach [.Tuple [.Name S p1, .Name T p2] kk p3] X.env := by rfl) (hs2 : starEach [.Tuple [.Name S p1, .Name T p2] kk p3] X.env = (false, eval (.Tuple [.Name S p1, .Name T p2] kk p3) X.env) :: starEach [] X.env := by rfl)
    (hs3 : starEach [.Name S p1, .Name T p2] X.env = (false, eval (.Name S p1) X.env) :: starEach [.Name T p2] X.env := by rfl) (hs4 : starEach [.Name T p2] X.env = (false, eval (.Name T p2) X.env) :: starEach [] X.env := by rfl) (hpl : (backTo pos (starEach [.Tuple [.Name S p1, .Name T p2] kk p3] X.env)).any (·.1) = false := by rfl) :
    VE X (.Call (.Name "isinstance" p) [e, .Tuple [.Name S p1, .Name T p2] kk p3] [] pos) (mIsi2 id1 id2 m) :=
  (pe_callB call_isiT hg hm hb (pa_cons he (pa_cons (pe_tup (pa_cons (pe_bltn (v := .ty id1) hg1 hm1 hv1 rfl hn1 hdb1) (pa_cons (pe_bltn (v := .ty id2) hg2 hm2 hv2 rfl hn2 hdb2) pa_nil hs4) hs3)) pa_nil hs2) hs) (by decide) (by decide) hs hpl).imp fun _ _ _ => isi2_run
end
section
variable {X : Cx} {K : PySem.W.Frag} {B : Fb} {env : Sl} {σ : St} {Hk : Kn} {H : Hp}
theorem iter_rangeC {lo c : Int} {n : Nat} {Hk : Hp} : IterOk K Hk (Itc lo c n) ((List.range n).map fun i => .int (lo + (i : Nat) * c)) := by
  intro Hk2 H2 _ _ i
  refine ⟨fun d hd => ?_, fun hl => ?_⟩
  · rw [List.getElem?_map] at hd
    obtain ⟨j, h1, rfl⟩ := Option.map_eq_some_iff.mp hd
    obtain ⟨h2, h3⟩ := List.getElem?_eq_some_iff.mp h1
    rw [List.getElem_range] at h3
    subst h3
    rw [List.length_range] at h2
    refine ⟨h2, fun x H' y => ?_⟩
    obtain ⟨rfl, rfl⟩ := y
    exact .inl ⟨rfl, .int _⟩
  · rw [List.length_map, List.length_range] at hl
    exact hl
def mRange3 (ms : MA) : MI := fun env => (ms env).bind fun p => (rdAll p.2 p.1).bind fun ds => match ds with
  | [.int i, .int j, .int c] => if (c ≠ 0 ∧ c.natAbs < 1073741824) ∧ Builtin.Range.small i j c = true then some ((List.range (Builtin.Range.rangeSize i j c).toNat).map fun k => .int (i + (k : Nat) * c), p.2) else none
  | _ => none
theorem rangeSize_nn (i j c : Int) : 0 ≤ Builtin.Range.rangeSize i j c := by
  unfold Builtin.Range.rangeSize
  split
  · split
    · have : 0 ≤ (j - i - 1) / c := Int.ediv_nonneg (by omega) (by omega)
      omega
    · omega
  · split
    · have : 0 ≤ (i - j - 1) / (-c) := Int.ediv_nonneg (by omega) (by omega)
      omega
    · omega
theorem range3_run {ms : MA} {σ : St} {H : Hp} {R : It → Hp → Prop} (h : tI K (mRange3 ms) σ H R) : iRng3 (tA K ms) σ H R := by
  obtain ⟨B, env, Hk, ds, env', R0, hm, k⟩ := h
  obtain ⟨⟨rs, e1⟩, h1, hm⟩ := Option.bind_eq_some_iff.mp hm
  obtain ⟨es, h2, hm⟩ := Option.bind_eq_some_iff.mp hm
  refine ⟨B, env, Hk, rs, e1, R0, h1, fun vs Hk1 H1 R1 s1 o1 => ?_⟩
  have hv := R1.views o1 h2
  split at hm
  · rename_i i j c
    split at hm
    · rename_i hz
      cases hm
      cases hv with
      | cons v1 v2 =>
        cases v2 with
        | cons v2 v3 =>
          cases v3 with
          | cons v3 v4 =>
            cases v4
            rw [v1.int, v2.int, v3.int]
            exact ⟨i, j, c, (Builtin.Range.rangeSize i j c).toNat, rfl, ⟨hz.1.1, hz.1.2, hz.2, (Int.toNat_of_nonneg (rangeSize_nn i j c)).symm⟩, k _ Hk1 H1 R1 s1 iter_rangeC⟩
    · cases hm
  · cases hm
theorem vi_range3 {tg a b c : Expr} {ms : MA} {p pos : Pos} (hm : X.mg "range" = none) (ha : VA X [a, b, c] ms) (hg : Gl X "range" := by rfl) (hs : starEach [a, b, c] X.env = (false, eval a X.env) :: starEach [b, c] X.env := by rfl) (hpl : (backTo pos (starEach [b, c] X.env)).any (·.1) = false := by rfl) : VI X tg (.Call (.Name "range" p) [a, b, c] [] pos) (mRange3 ms) := (pi_range3 hg hm ha hs hpl).imp fun _ _ _ => range3_run
theorem ve_bm {T : String} {name : Str} {id : String} {r : V → List V → Hp → VK → Prop} {g : PyData → List PyData → Option Res} {o e : Expr} {es : List Expr} {m : ME} {ms : MA} {apos cpos : Pos} (pa : PySem.PlainAttrs T) (slot : PySem.Slot T name id) (hty : typeOf (.builtin id) = pure (.type "method_descriptor")) (hm : MtR X id r) (hg : MtD X.K r g) (ho : VE X o m) (ha : VA X (e :: es) ms)
    (hbase : attributeBase o name X.env (eval o X.env) = eval o X.env := by rfl)
    (hfew : ((backTo cpos (starEach (e :: es) X.env)).all (fun x => !x.1) && (backToKw cpos (keywordEach [] X.env)).all (fun x => x.1.isSome)
      && decide ((e :: es).length + ([] : List Keyword).length + (if ([] : List Keyword).isEmpty then 0 else 1) < 30)) = true := by rfl)
    (hline : (apos.endLine == cpos.line) = true := by rfl) (hs : starEach (e :: es) X.env = (false, eval e X.env) :: starEach es X.env := by rfl) (hplain : (backTo cpos (starEach es X.env)).any (·.1) = false := by rfl) :
    VE X (.Call (.Attribute o name apos) (e :: es) [] cpos) (mBM T g m ms) :=
  (pe_bm pa slot hty hm ho ha hbase hfew hline hs hplain).imp fun _ _ _ => bm_run hg
theorem ok_no {P : Program} {w : World} {mg : Str → Option Value} {base : Heap} {k : Nat} {f : Addr} {fd : FuncData} {ps : List Str} : FnOk P w K mg base CX0 k f fd ps (spF K fun _ => none) :=
  ⟨fun vs H Q E ⟨_, _, _, _, _, _, z, _⟩ => (nomatch z), fun A outer s H args us vs Q E _ _ _ _ ⟨_, _, _, _, _, _, z, _⟩ => nomatch z⟩
end
section
variable {X : Cx} {K : PySem.W.Frag} {B : Fb} {env : Sl} {σ : St} {Hk H : Hp}
def vOf : PyData → V
  | .none => .non
  | .bool b => .bl b
  | .int i => .int i
  | .str s => .str s
  | _ => .non
theorem flat_vOf {d : PyData} {v : V} (h : flatD d = true) (q : Dv K Hk v d) : v = vOf d ∧ flatV v = true := by
  cases q with
  | non => exact ⟨rfl, rfl⟩
  | bl b => exact ⟨rfl, rfl⟩
  | int i => exact ⟨rfl, rfl⟩
  | str s => exact ⟨rfl, rfl⟩
  | _ => cases h
theorem flat_vOfs : ∀ {ds : List PyData} {vs : List V}, ds.all flatD = true → DvAll K Hk vs ds → vs = ds.map vOf ∧ vs.all flatV = true
  | [], _, _, .nil => ⟨rfl, rfl⟩
  | d :: ds, _, h, .cons h1 h2 => by
    rw [List.all_cons, Bool.and_eq_true] at h
    obtain ⟨e1, e2⟩ := flat_vOf h.1 h1
    obtain ⟨e3, e4⟩ := flat_vOfs h.2 h2
    exact ⟨by rw [e1, e3]; rfl, by rw [List.all_cons, e2, e4]; rfl⟩
def inD (x : PyData) (ds : List PyData) : Bool := inV (vOf x) (ds.map vOf)
def gIn (neg : Bool) (x y : PyData) : Option Res := if flatD x = true then (match y with
  | .list ds => if ds.all flatD = true then some (.dat (.bool (neg ^^ inD x ds))) else none
  | .tuple ds => if ds.all flatD = true then some (.dat (.bool (neg ^^ inD x ds))) else none
  | _ => none) else none
theorem View.flat {d : PyData} {v : V} (h : flatD d = true) (q : View K Hk H v d) : v = vOf d ∧ flatV v = true := by
  rcases q with q | ⟨a, c, rfl, rfl, _⟩
  · exact flat_vOf h q
  · cases c <;> cases h
theorem od_in {neg : Bool} : OpD K (rIn K neg) (gIn neg) := by
  intro Hk H x y dx dy res Q e hx hy h q
  unfold gIn at h
  by_cases hf : flatD dx = true
  · rw [if_pos hf] at h
    obtain ⟨e1, e2⟩ := View.flat hf hx
    split at h
    · rename_i ds
      by_cases ha : ds.all flatD = true
      · rw [if_pos ha] at h
        cases h
        obtain ⟨a, ws, rfl, g1, g2⟩ := hy.list e
        obtain ⟨e3, e4⟩ := flat_vOfs ha g2
        refine ⟨a, ws, rfl, .inl (SqL.of g1), e2, e4, ?_⟩
        rw [e1, e3, show (if neg then !inV (vOf dx) (ds.map vOf) else inV (vOf dx) (ds.map vOf)) = (neg ^^ inD dx ds) by unfold inD; cases neg <;> simp]
        exact q _ _ (.inl ⟨rfl, .bl _⟩)
      · rw [if_neg ha] at h
        cases h
    · rename_i ds
      by_cases ha : ds.all flatD = true
      · rw [if_pos ha] at h
        cases h
        obtain ⟨a, ws, rfl, g1, g2⟩ := hy.tup e
        obtain ⟨e3, e4⟩ := flat_vOfs ha g2
        refine ⟨a, ws, rfl, .inr g1, e2, e4, ?_⟩
        rw [e1, e3, show (if neg then !inV (vOf dx) (ds.map vOf) else inV (vOf dx) (ds.map vOf)) = (neg ^^ inD dx ds) by unfold inD; cases neg <;> simp]
        exact q _ _ (.inl ⟨rfl, .bl _⟩)
      · rw [if_neg ha] at h
        cases h
    · cases h
  · rw [if_neg hf] at h
    cases h
end
theorem law_imp {K : PySem.W.Frag} {fm : FM} (h : ∀ ns : List Int, ns.length ≤ 63 → ∃ outs, fm [.scr ns] = some (.dat (.bool true), outs)) (vs : List V) (H : Hp) (Q : VK) (E : XK) (q : spLaw K vs H Q E) : spF K fm vs H Q E := by
  obtain ⟨a, ns, rfl, hS, hl, k⟩ := q
  obtain ⟨outs, e⟩ := h ns hl
  refine ⟨H, [.scr ns], _, outs, .refl _, ⟨rfl, fun i s v e1 e2 => ?_, fun i k c e1 => ?_, fun i j k l c c' a e1 => ?_⟩, e, fun v Hk' H' p => ?_⟩
  · cases i with
    | zero =>
      simp at e1 e2
      subst e1 e2
      exact ⟨a, rfl, hS⟩
    | succ i => simp at e1
  · cases i with
    | zero => simp at e1
    | succ i => simp at e1
  · cases i with
    | zero => simp at e1
    | succ i => simp at e1
  · have hr : Dv K Hk' v (.bool true) := p.res
    cases hr
    exact k H'
theorem Rel.wipe1 {K : PySem.W.Frag} {B : Fb} {env : Sl} {σ : St} {Hk : Kn} {H : Hp} (R : Rel K B env σ Hk H) (i : Nat) : Rel K B (env.set i .no) σ Hk H := by
  cases h : σ[i]? with
  | none =>
    have h1 := List.getElem?_eq_none_iff.mp h
    rw [List.set_eq_of_length_le (by rw [R.len]; exact h1)]
    exact R
  | some o =>
    have h2 : σ.set i o = σ := by
      apply List.ext_getElem?
      intro j
      by_cases e : i = j
      · subst e
        rw [List.getElem?_set_self (List.getElem?_eq_some_iff.mp h).1, h]
      · rw [List.getElem?_set_ne e]
    have R2 := R.setNo (i := i) (o := o)
    rw [h2] at R2
    exact R2
theorem Rel.wipe0 {K : PySem.W.Frag} {B : Fb} {env : Sl} {σ : St} {Hk : Kn} {H : Hp} (R : Rel K B env σ Hk H) : ∀ vs : List Nat, Rel K B (wipeS env vs) σ Hk H
  | [] => R
  | v :: vs => (Rel.wipe0 R vs).wipe1 v
def aft (ws : List Nat) : Fl × Sl → Fl × Sl
  | (.rt r, e) => (.rt r, e)
  | (f, e) => (f, wipeS e ws)
def mAft (ws : List Nat) (m : MS) : MS := fun env => (m env).map (aft ws)
def mBef (ws : List Nat) (m : MS) : MS := fun env => m (wipeS env ws)
def retR (ws : List Nat) : Res × Sl → Option Res
  | (.dat d, _) => some (.dat d)
  | (.new c, _) => some (.new c)
  | (.pv p, _) => some (.pv p)
  | (.slt i, e) => match e[i]? with
    | some (.val d) => some (.dat d)
    | some (.own c) => if ws.contains i = true then some (.new c) else none
    | _ => none
def mRetW (ws : List Nat) (m : ME) : MS := fun env => (m env).bind fun p => (retR ws p).map fun r => (.rt r, wipeS p.2 ws)
section
variable {X : Cx} {K : PySem.W.Frag} {m n : MS} {me : ME} {ws : List Nat} {st : Stmt} {ss : List Stmt} {e : Expr} {pos : Pos}
theorem aft_run {W : WX} {D : Ends} {σ : St} {H : Hp} (h : tS K W (mAft ws m) D σ H) : tS K W m D σ H := by
  obtain ⟨B, env, Hk, f, env', R, hm, k⟩ := h
  obtain ⟨⟨f1, e1⟩, h1, hm⟩ := Option.map_eq_some_iff.mp hm
  refine ⟨B, env, Hk, f1, e1, R, h1, fun σ1 Hk1 H1 R1 s1 => ?_⟩
  cases f1 with
  | nx => cases hm; exact k σ1 Hk1 H1 (R1.wipe0 ws) s1
  | bk => cases hm; exact k σ1 Hk1 H1 (R1.wipe0 ws) s1
  | ct => cases hm; exact k σ1 Hk1 H1 (R1.wipe0 ws) s1
  | rt r => cases hm; exact k σ1 Hk1 H1 R1 s1
  | ex C fs => cases hm; exact k σ1 Hk1 H1 (R1.wipe0 ws) s1
theorem bef_run {W : WX} {D : Ends} {σ : St} {H : Hp} (h : tS K W (mBef ws m) D σ H) : tS K W m D σ H := by
  obtain ⟨B, env, Hk, f, env', R, hm, k⟩ := h
  exact ⟨B, wipeS env ws, Hk, f, env', R.wipe0 ws, hm, k⟩
theorem vs_aft (h : VSs X ss m) : VSs X ss (mAft ws m) := h.imp fun _ _ _ _ => aft_run
theorem vs_bef (h : VS X st m) : VS X st (mBef ws m) := h.imp fun _ _ _ _ => bef_run
theorem wipeS_get {env : Sl} {i : Nat} {s : Slot} : ∀ {vs : List Nat}, (wipeS env vs)[i]? = some s → s = .no ∨ (i ∉ vs ∧ env[i]? = some s)
  | [], h => .inr ⟨by simp, h⟩
  | v :: vs, h => by
    rcases set_get (show ((wipeS env vs).set v .no)[i]? = some s from h) with ⟨_, z⟩ | ⟨ne, z⟩
    · exact .inl z
    · rcases wipeS_get z with q | ⟨q1, q2⟩
      · exact .inl q
      · refine .inr ⟨?_, q2⟩
        intro hm
        rcases List.mem_cons.mp hm with q | q
        · exact ne q
        · exact q1 q
theorem retW_run {W : WX} {D : Ends} {σ : St} {H : Hp} (h : tS K W (mRetW ws me) D σ H) : tRet (tE K me) D σ H := by
  obtain ⟨B, env, Hk, f, env', R, hm, k⟩ := h
  obtain ⟨⟨r1, e1⟩, h1, hm⟩ := Option.bind_eq_some_iff.mp hm
  obtain ⟨r2, h2, hm⟩ := Option.map_eq_some_iff.mp hm
  cases hm
  refine ⟨B, env, Hk, r1, e1, R, h1, fun v Hk1 H1 R1 s1 o1 => ?_⟩
  refine k σ Hk1 H1 (R1.wipe0 ws) s1 v ?_
  cases r1 with
  | dat d =>
    cases h2
    exact o1
  | new c =>
    cases h2
    obtain ⟨a, e, q1, q2, q3, q5, q4⟩ := o1
    refine ⟨a, e, q1, q2, q3, q5, fun j s hj hm => ?_⟩
    rcases wipeS_get hj with z | ⟨_, z⟩
    · subst z; cases hm
    · exact q4 j s z hm
  | pv p =>
    cases h2
    exact o1
  | slt i =>
    have o1 : σ[i]? = some (some v) := o1
    simp only [retR] at h2
    split at h2
    · rename_i d q
      cases h2
      obtain ⟨o, g1, v', rfl, g2⟩ := R1.slot i _ q
      rw [o1] at g1
      cases g1
      exact g2
    · rename_i c q
      split at h2
      · rename_i hc
        cases h2
        obtain ⟨o, g1, a, rfl, g2, g3, g4⟩ := R1.slot i _ q
        rw [o1] at g1
        cases g1
        refine ⟨a, rfl, g2, g3, g4, fun n => R1.psep i _ a n q trivial o1, fun j s hj hm hs => ?_⟩
        rcases wipeS_get hj with z | ⟨z1, z⟩
        · subst z; cases hm
        · have := R1.sep j i s _ a z q hm trivial hs o1
          subst this
          exact z1 (by simpa using hc)
      · cases h2
    · cases h2
theorem vs_retW (he : VE X e me) : VS X (.Return (some e) pos) (mRetW ws me) := fun W _ => (ps_ret he).imp fun _ _ _ => retW_run
end
def bnd {α β γ : Type} (x : Option (α × β)) (K : α → β → Option γ) : Option γ := x.bind fun p => K p.1 p.2
section
variable {β γ δ : Type} {env e e1 e2 : Sl} {R : Option β} {i j : Nat} {d dx dy : PyData} {ds es : List PyData} {m ma mb mc : ME} {ms : MA} {t u : MT} {r r1 r2 : Res} {rs : List Res}
theorem c_cal {α τ : Type} {X : Option α} {Y : Option τ} {out : τ → α} {K : α → Option β} {k : τ → Option γ} {h : γ → Option β} (q : X = Y.map out) (p : ∀ z, K (out z) = (k z).bind h) : X.bind K = (Y.bind k).bind h := by
  subst q
  cases Y with
  | none => rfl
  | some z => exact p z
theorem c_pur {α : Type} {X : Option α} {v : α} {K : α → Option β} (q : X = some v) (p : K v = R) : X.bind K = R := by
  subst q
  exact p
theorem c_cal2 {α α' τ : Type} {X : Option (α × α')} {Y : Option τ} {out : τ → α × α'} {K : α → α' → Option β} {k : τ → Option γ} {h : γ → Option β} (q : X = Y.map out) (p : ∀ z, K (out z).1 (out z).2 = (k z).bind h) : bnd X K = (Y.bind k).bind h := c_cal q p
theorem c_pur2 {α α' : Type} {X : Option (α × α')} {v : α} {v' : α'} {K : α → α' → Option β} (q : X = some (v, v')) (p : K v v' = R) : bnd X K = R := c_pur q p
theorem c_ite {α α' : Type} {c : Bool} {a b : Option (α × α')} {K : α → α' → Option β} {A B : Option γ} {h : γ → Option β} (p : bnd a K = A.bind h) (q : bnd b K = B.bind h) : bnd (if c = true then a else b) K = (if c = true then A else B).bind h := by
  cases c
  · exact q
  · exact p
theorem c_ifJ {α α' τ : Type} {c : Bool} {a b : Option (α × α')} {K : α → α' → Option β} {A B : Option τ} {k : τ → Option γ} {h : γ → Option β} (out : τ → α × α')
    (p : bnd a (fun x y => some (x, y)) = A.bind (fun z => some (out z))) (q : bnd b (fun x y => some (x, y)) = B.bind (fun z => some (out z))) (w : ∀ z, K (out z).1 (out z).2 = (k z).bind h) : bnd (if c = true then a else b) K = ((if c = true then A else B).bind k).bind h := by
  have f : ∀ {x : Option (α × α')} {Z : Option τ}, bnd x (fun x y => some (x, y)) = Z.bind (fun z => some (out z)) → bnd x K = (Z.bind k).bind h := fun {x Z} g => by
    have : x = Z.map out := by
      cases x with
      | none =>
        cases Z with
        | none => rfl
        | some z => cases g
      | some p =>
        cases Z with
        | none => cases g
        | some z => exact g
    subst this
    cases Z with
    | none => rfl
    | some z => exact w z
  cases c
  · exact f q
  · exact f p
theorem c_tot {α α' : Type} {X : Option (α × α')} {v : α} {v' : α'} (h : bnd X (fun x y => some (x, y)) = some (v, v')) : X = some (v, v') := by
  cases X with
  | none => cases h
  | some p => exact h
theorem c_map {α α' τ : Type} {X : Option (α × α')} {Y : Option τ} {out : τ → α × α'} (h : bnd X (fun x y => some (x, y)) = Y.bind fun z => some (out z)) : X = Y.map out := by
  cases X with
  | none =>
    cases Y with
    | none => rfl
    | some z => cases h
  | some p =>
    cases Y with
    | none => cases h
    | some z => exact h
section
variable {K : Res → Sl → Option β}
theorem c_nameV (h : env[i]? = some (.val d)) (k : K (.dat d) env = R) : bnd (mName i env) K = R := by
  unfold mName; rw [h]; exact k
theorem c_nameO {c : Cell} (h : env[i]? = some (.own c)) (k : K (.slt i) env = R) : bnd (mName i env) K = R := by
  unfold mName; rw [h]; exact k
theorem c_nameI {n : Nat} {c : Cell} (h : env[i]? = some (.io n c)) (k : K (.slt i) env = R) : bnd (mName i env) K = R := by
  unfold mName; rw [h]; exact k
theorem c_nameS {ns : List Int} (h : env[i]? = some (.scr ns)) (k : K (.slt i) env = R) : bnd (mName i env) K = R := by
  unfold mName; rw [h]; exact k
theorem c_c (k : K (.dat d) env = R) : bnd (mC d env) K = R := k
theorem c_frz (k : bnd (m env) (fun r e => bnd (frz (r, e)) K) = R) : bnd (mFrz m env) K = R := by
  rw [← k]; unfold mFrz bnd; cases m env <;> rfl
theorem c_frzD (k : K (.dat d) e = R) : bnd (frz (.dat d, e)) K = R := k
theorem c_frzN (k : K (.dat (.list ds)) e = R) : bnd (frz (.new (.lst ds), e)) K = R := k
theorem c_frzO (h : e[i]? = some (.own (.lst ds))) (hs : e.set i (.val (.list ds)) = e2) (k : K (.dat (.list ds)) e2 = R) : bnd (frz (.slt i, e)) K = R := by
  subst hs; simp only [frz, h]; exact k
def opK (g : PyData → PyData → Option Res) (r1 r2 : Res) (e : Sl) (K : Res → Sl → Option β) : Option β := (rdv e (stab r1)).bind fun dx => (rdv e (stab r2)).bind fun dy => (g dx dy).bind fun r => K r e
variable {g g' : PyData → PyData → Option Res}
theorem c_op (k : bnd (ma env) (fun r1 e1 => bnd (mb e1) fun r2 e2 => opK g r1 r2 e2 K) = R) : bnd (mOp g ma mb env) K = R := by
  rw [← k]; unfold mOp bnd opK
  cases ma env with
  | none => rfl
  | some p =>
    simp only [Option.bind_some]
    cases mb p.2 with
    | none => rfl
    | some q =>
      simp only [Option.bind_some]
      cases rdv q.2 (stab p.1) with
      | none => rfl
      | some x =>
        simp only [Option.bind_some]
        cases rdv q.2 (stab q.1) with
        | none => rfl
        | some y =>
          simp only [Option.bind_some]
          cases g x y <;> rfl
theorem c_opK (h1 : rdv e (stab r1) = some dx) (h2 : rdv e (stab r2) = some dy) (k : (g dx dy).bind (fun r => K r e) = R) : opK g r1 r2 e K = R := by
  unfold opK; rw [h1, h2]; exact k
def unK (g : PyData → Option Res) (r : Res) (e : Sl) (K : Res → Sl → Option β) : Option β := (rdv e (stab r)).bind fun dx => (g dx).bind fun r => K r e
theorem c_un {g : PyData → Option Res} (k : bnd (ma env) (fun r e => unK g r e K) = R) : bnd (mUn g ma env) K = R := by
  rw [← k]; unfold mUn bnd unK
  cases ma env with
  | none => rfl
  | some p =>
    simp only [Option.bind_some]
    cases rdv p.2 (stab p.1) with
    | none => rfl
    | some x =>
      simp only [Option.bind_some]
      cases g x <;> rfl
theorem c_unK {g : PyData → Option Res} (h1 : rdv e (stab r) = some dx) (k : (g dx).bind (fun r => K r e) = R) : unK g r e K = R := by
  unfold unK; rw [h1]; exact k
end
section
variable {K : Bool → Sl → Option β} {b c : Bool}
def testK (r : Res) (e : Sl) (K : Bool → Sl → Option β) : Option β := match r with
  | .dat (.bool b) => K b e
  | _ => none
theorem c_test (k : bnd (m env) (fun r e => testK r e K) = R) : bnd (mTest m env) K = R := by
  rw [← k]; unfold mTest bnd
  cases m env with
  | none => rfl
  | some p =>
    cases p with
    | mk r e =>
      cases r with
      | dat d => cases d <;> rfl
      | _ => rfl
theorem c_testK (k : K b e = R) : testK (.dat (.bool b)) e K = R := k
theorem c_andB (k : bnd (t env) (fun c e => bnd (if c = true then u e else some (false, e)) K) = R) : bnd (mAnd t u env) K = R := by
  rw [← k]; unfold mAnd bnd
  cases t env with
  | none => rfl
  | some p => cases p with | mk c e => cases c <;> rfl
theorem c_orB (k : bnd (t env) (fun c e => bnd (if c = true then some (true, e) else u e) K) = R) : bnd (mOr t u env) K = R := by
  rw [← k]; unfold mOr bnd
  cases t env with
  | none => rfl
  | some p => cases p with | mk c e => cases c <;> rfl
theorem c_notB (k : bnd (t env) (fun c e => K (!c) e) = R) : bnd (mNot t env) K = R := by
  rw [← k]; unfold mNot bnd
  cases t env <;> rfl
theorem c_yes (k : K true env = R) : bnd (mYes env) K = R := k
theorem c_orP (h1 : t env = some (b, env)) (h2 : u env = some (c, env)) (k : K (b || c) env = R) : bnd (mOr t u env) K = R := by
  unfold mOr; rw [h1]
  cases b
  · show bnd (u env) K = R
    rw [h2]; exact k
  · exact k
end
section
variable {K : Res → Sl → Option β} {b c : Bool}
theorem c_andVP (h1 : ma env = some (.dat (.bool b), env)) (h2 : mb env = some (.dat (.bool c), env)) (k : K (.dat (.bool (b && c))) env = R) : bnd (mAndV ma mb env) K = R := by
  unfold mAndV; rw [h1]
  cases b
  · exact k
  · show bnd (mb env) K = R
    rw [h2]; exact k
def boolK (r : Res) (e : Sl) (K : Bool → Sl → Option β) : Option β := match r with
  | .dat (.bool b) => K b e
  | _ => none
theorem c_boolK {K : Bool → Sl → Option β} (k : K b e = R) : boolK (.dat (.bool b)) e K = R := k
theorem c_andV (k : bnd (ma env) (fun r e => boolK r e fun c e => bnd (if c = true then mb e else some (.dat (.bool false), e)) K) = R) : bnd (mAndV ma mb env) K = R := by
  rw [← k]; unfold mAndV bnd
  cases ma env with
  | none => rfl
  | some p =>
    cases p with
    | mk r e =>
      cases r with
      | dat d => cases d with
        | bool b => cases b <;> rfl
        | _ => rfl
      | _ => rfl
theorem c_notV (k : bnd (ma env) (fun r e => boolK r e fun c e => K (.dat (.bool (!c))) e) = R) : bnd (mNotV ma env) K = R := by
  rw [← k]; unfold mNotV bnd
  cases ma env with
  | none => rfl
  | some p =>
    cases p with
    | mk r e =>
      cases r with
      | dat d => cases d <;> rfl
      | _ => rfl
theorem c_if (k : bnd (t env) (fun c e => bnd (if c = true then ma e else mb e) K) = R) : bnd (mIf t ma mb env) K = R := by
  rw [← k]; unfold mIf bnd
  cases t env with
  | none => rfl
  | some p => cases p with | mk c e => cases c <;> rfl
variable {K' : List Res → Sl → Option β}
theorem c_nil (k : K' [] env = R) : bnd (mNil env) K' = R := k
theorem c_cons (k : bnd (m env) (fun r e => bnd (ms e) fun rs e' => K' (stab r :: rs) e') = R) : bnd (mCons m ms env) K' = R := by
  rw [← k]; unfold mCons bnd
  cases m env with
  | none => rfl
  | some p =>
    simp only [Option.bind_some]
    cases ms p.2 <;> rfl
def lstK (rs : List Res) (e : Sl) (K : Res → Sl → Option β) : Option β := (dats rs).bind fun ds => if ds.length ≤ 100000 then K (.new (.lst ds)) e else none
theorem c_lst (k : bnd (ms env) (fun rs e => lstK rs e K) = R) : bnd (mLst ms env) K = R := by
  rw [← k]; unfold mLst bnd lstK
  cases ms env with
  | none => rfl
  | some p =>
    simp only [Option.bind_some]
    cases dats p.1 with
    | none => rfl
    | some ds =>
      simp only [Option.bind_some]
      split <;> rfl
theorem c_lstK (ds : List PyData) (h : dats rs = some ds) (hl : ds.length ≤ 100000) (k : K (.new (.lst ds)) e = R) : lstK rs e K = R := by
  unfold lstK; rw [h]
  show (if ds.length ≤ 100000 then _ else _) = R
  rw [if_pos hl]; exact k
def tupK (rs : List Res) (e : Sl) (K : Res → Sl → Option β) : Option β := (dats rs).bind fun ds => if ds.length ≤ 100000 then K (.dat (.tuple ds)) e else none
theorem c_tup (k : bnd (ms env) (fun rs e => tupK rs e K) = R) : bnd (mTup ms env) K = R := by
  rw [← k]; unfold mTup bnd tupK
  cases ms env with
  | none => rfl
  | some p =>
    simp only [Option.bind_some]
    cases dats p.1 with
    | none => rfl
    | some ds =>
      simp only [Option.bind_some]
      split <;> rfl
theorem c_tupK (ds : List PyData) (h : dats rs = some ds) (hl : ds.length ≤ 100000) (k : K (.dat (.tuple ds)) e = R) : tupK rs e K = R := by
  unfold tupK; rw [h]
  show (if ds.length ≤ 100000 then _ else _) = R
  rw [if_pos hl]; exact k
def cbK (g : List PyData → Option Res) (rs : List Res) (e : Sl) (K : Res → Sl → Option β) : Option β := (rdAll e rs).bind fun ds => (g ds).bind fun r => K r e
theorem c_cb {g : List PyData → Option Res} (k : bnd (ms env) (fun rs e => cbK g rs e K) = R) : bnd (mCB g ms env) K = R := by
  rw [← k]; unfold mCB bnd cbK
  cases ms env with
  | none => rfl
  | some p =>
    simp only [Option.bind_some]
    cases rdAll p.2 p.1 with
    | none => rfl
    | some ds =>
      simp only [Option.bind_some]
      cases g ds <;> rfl
theorem c_cbK {g : List PyData → Option Res} (ds : List PyData) (h : rdAll e rs = some ds) (k : (g ds).bind (fun r => K r e) = R) : cbK g rs e K = R := by
  unfold cbK; rw [h]; exact k
def bmK (T : String) (g : PyData → List PyData → Option Res) (ms : MA) (r : Res) (e : Sl) (K : Res → Sl → Option β) : Option β := (rdv e (stab r)).bind fun d0 => if tyD T d0 = true then bnd (ms e) fun rs e' => (rdv e' (stab r)).bind fun d => (rdAll e' rs).bind fun ds => (g d ds).bind fun r => K r e' else none
theorem c_bm {T : String} {g : PyData → List PyData → Option Res} (k : bnd (m env) (fun r e => bmK T g ms r e K) = R) : bnd (mBM T g m ms env) K = R := by
  rw [← k]; unfold mBM bnd bmK
  cases m env with
  | none => rfl
  | some p =>
    simp only [Option.bind_some]
    cases rdv p.2 (stab p.1) with
    | none => rfl
    | some d0 =>
      simp only [Option.bind_some]
      split
      · unfold bnd
        cases ms p.2 with
        | none => rfl
        | some q =>
          simp only [Option.bind_some]
          cases rdv q.2 (stab p.1) with
          | none => rfl
          | some d =>
            simp only [Option.bind_some]
            cases rdAll q.2 q.1 with
            | none => rfl
            | some ds =>
              simp only [Option.bind_some]
              cases g d ds <;> rfl
      · rfl
def bmK2 (g : PyData → List PyData → Option Res) (r : Res) (rs : List Res) (e : Sl) (K : Res → Sl → Option β) : Option β := (rdv e (stab r)).bind fun d => (rdAll e rs).bind fun ds => (g d ds).bind fun r => K r e
theorem c_bmK {T : String} {g : PyData → List PyData → Option Res} (d0 : PyData) (h1 : rdv e (stab r) = some d0) (h2 : tyD T d0 = true) (k : bnd (ms e) (fun rs e' => bmK2 g r rs e' K) = R) : bmK T g ms r e K = R := by
  unfold bmK; rw [h1]
  simp only [Option.bind_some, h2, if_true]
  exact k
theorem c_bmK2 {g : PyData → List PyData → Option Res} (d : PyData) (ds : List PyData) (h1 : rdv e (stab r) = some d) (h2 : rdAll e rs = some ds) (k : (g d ds).bind (fun r => K r e) = R) : bmK2 g r rs e K = R := by
  unfold bmK2; rw [h1, h2]; exact k
end
section
variable {K : Res → Sl → Option β} {fm : FM} {io : Option Nat} {ins : Sl}
def callK (fm : FM) (io : Option Nat) (rs : List Res) (e : Sl) (K : Res → Sl → Option β) : Option β := if lentOk io rs = true then (argsV true io e 0 rs).bind fun ins => (fm ins).bind fun q => if (flatR q.1 && q.2.all flatS) = true then (backV io e rs q.2).bind fun e' => K q.1 e' else none else none
theorem c_callF (k : bnd (ms env) (fun rs e => callK fm io rs e K) = R) : bnd (mCallF fm io ms env) K = R := by
  rw [← k]; unfold mCallF bnd callK
  cases ms env with
  | none => rfl
  | some p =>
    simp only [Option.bind_some]
    split
    · cases argsV true io p.2 0 p.1 with
      | none => rfl
      | some ins =>
        simp only [Option.bind_some]
        cases fm ins with
        | none => rfl
        | some q =>
          simp only [Option.bind_some]
          split
          · cases backV io p.2 p.1 q.2 <;> rfl
          · rfl
    · rfl
theorem c_callK {τ : Type} {Y : Option τ} {out : τ → Res × Sl} {bk : τ → Sl} {k : τ → Option γ} {h : γ → Option β} (h1 : lentOk io rs = true) (h2 : argsV true io e 0 rs = some ins) (q : fm ins = Y.map out) (hf : ∀ z, (flatR (out z).1 && (out z).2.all flatS) = true) (hb : ∀ z, backV io e rs (out z).2 = some (bk z)) (p : ∀ z, K (out z).1 (bk z) = (k z).bind h) : callK fm io rs e K = (Y.bind k).bind h := by
  unfold callK
  rw [if_pos h1, h2, Option.bind_some, q]
  cases Y with
  | none => rfl
  | some z =>
    show (if (flatR (out z).1 && (out z).2.all flatS) = true then (backV io e rs (out z).2).bind fun e' => K (out z).1 e' else none) = _
    rw [if_pos (hf z), hb z]
    exact p z
def callVK (fm : FM) (io : Option Nat) (rs : List Res) (e : Sl) (K : Res → Sl → Option β) : Option β := (argsV false io e 0 rs).bind fun ins => (fm ins).bind fun q => (backV io e rs q.2).bind fun e' => K q.1 e'
theorem c_callV (k : bnd (ms env) (fun rs e => callVK fm io rs e K) = R) : bnd (mCallV fm io ms env) K = R := by
  rw [← k]; unfold mCallV bnd callVK
  cases ms env with
  | none => rfl
  | some p =>
    simp only [Option.bind_some]
    cases argsV false io p.2 0 p.1 with
    | none => rfl
    | some ins =>
      simp only [Option.bind_some]
      cases fm ins with
      | none => rfl
      | some q =>
        simp only [Option.bind_some]
        cases backV io p.2 p.1 q.2 <;> rfl
theorem c_callVK {τ : Type} {Y : Option τ} {out : τ → Res × Sl} {bk : τ → Sl} {k : τ → Option γ} {h : γ → Option β} (h2 : argsV false io e 0 rs = some ins) (q : fm ins = Y.map out) (hb : ∀ z, backV io e rs (out z).2 = some (bk z)) (p : ∀ z, K (out z).1 (bk z) = (k z).bind h) : callVK fm io rs e K = (Y.bind k).bind h := by
  unfold callVK
  rw [h2, Option.bind_some, q]
  cases Y with
  | none => rfl
  | some z =>
    show ((backV io e rs (out z).2).bind fun e' => K (out z).1 e') = _
    rw [hb z]
    exact p z
def mutK (i : Nat) (f : List PyData → List PyData → Option (List PyData × PyData)) (rs : List Res) (e : Sl) (K : Res → Sl → Option β) : Option β := (dats rs).bind fun es => (lstAt e i).bind fun q => (f q.2 es).bind fun z => K (.dat z.2) (e.set i (q.1.put (.lst z.1)))
theorem c_mut {f : List PyData → List PyData → Option (List PyData × PyData)} {q : Slot × List PyData} (h : lstAt env i = some q) (k : bnd (ms env) (fun rs e => mutK i f rs e K) = R) : bnd (mMut i f ms env) K = R := by
  rw [← k]; unfold mMut bnd mutK
  rw [h]
  simp only [Option.bind_some]
  cases ms env with
  | none => rfl
  | some p =>
    simp only [Option.bind_some]
    cases dats p.1 with
    | none => rfl
    | some es =>
      simp only [Option.bind_some]
      cases lstAt p.2 i with
      | none => rfl
      | some q =>
        simp only [Option.bind_some]
        cases f q.2 es <;> rfl
end
section
variable {K : Fl → Sl → Option β} {a b : MS} {ws : List Nat}
def seqK (b : MS) (f : Fl) (e : Sl) (K : Fl → Sl → Option β) : Option β := match f with
  | .nx => bnd (b e) K
  | f => K f e
theorem c_seq (k : bnd (a env) (fun f e => seqK b f e K) = R) : bnd (mSeq a b env) K = R := by
  rw [← k]; unfold mSeq bnd seqK
  cases a env with
  | none => rfl
  | some p =>
    cases p with
    | mk f e => cases f <;> rfl
theorem c_seqN (k : bnd (b e) K = R) : seqK b .nx e K = R := k
theorem c_seqR (k : K (.rt r) e = R) : seqK b (.rt r) e K = R := k
theorem c_skip (k : K .nx env = R) : bnd (mSkip env) K = R := k
theorem c_drop (k : bnd (m env) (fun r e => K .nx e) = R) : bnd (mDrop m env) K = R := by
  rw [← k]; unfold mDrop bnd
  cases m env <;> rfl
def retK (ws : List Nat) (r : Res) (e : Sl) (K : Fl → Sl → Option β) : Option β := (retR ws (r, e)).bind fun r => K (.rt r) (wipeS e ws)
theorem c_ret (k : bnd (m env) (fun r e => retK ws r e K) = R) : bnd (mRetW ws m env) K = R := by
  rw [← k]; unfold mRetW bnd retK
  cases m env with
  | none => rfl
  | some p =>
    simp only [Option.bind_some]
    cases retR ws p <;> rfl
theorem c_retK (r' : Res) (h : retR ws (r, e) = some r') (hw : wipeS e ws = e2) (k : K (.rt r') e2 = R) : retK ws r e K = R := by
  unfold retK; rw [h, hw]; exact k
theorem c_ifS (k : bnd (t env) (fun c e => bnd (if c = true then a e else b e) K) = R) : bnd (mIfS t a b env) K = R := by
  rw [← k]; unfold mIfS bnd
  cases t env with
  | none => rfl
  | some p => cases p with | mk c e => cases c <;> rfl
def setK (i : Nat) (r : Res) (e : Sl) (K : Fl → Sl → Option β) : Option β := (putRes i (r, e)).bind fun e => K .nx e
theorem c_set (k : bnd (m env) (fun r e => setK i r e K) = R) : bnd (mSet i m env) K = R := by
  rw [← k]; unfold mSet bnd setK
  cases m env with
  | none => rfl
  | some p =>
    simp only [Option.bind_some]
    cases putRes i p <;> rfl
theorem c_setD (hs : e.set i (.val d) = e2) (k : K .nx e2 = R) : setK i (.dat d) e K = R := by
  subst hs; exact k
theorem c_setN {c : Cell} (hs : e.set i (.own c) = e2) (k : K .nx e2 = R) : setK i (.new c) e K = R := by
  subst hs; exact k
theorem c_aft (k : bnd (a env) (fun f e => bnd (some (aft ws (f, e))) K) = R) : bnd (mAft ws a env) K = R := by
  rw [← k]; unfold mAft bnd
  cases a env <;> rfl
theorem c_aftN (hw : wipeS e ws = e2) (k : K .nx e2 = R) : bnd (some (aft ws (.nx, e))) K = R := by
  subst hw; exact k
theorem c_aftC (hw : wipeS e ws = e2) (k : K .ct e2 = R) : bnd (some (aft ws (.ct, e))) K = R := by
  subst hw; exact k
theorem c_aftR (k : K (.rt r) e = R) : bnd (some (aft ws (.rt r, e))) K = R := k
theorem c_bef (hw : wipeS env ws = e2) (k : bnd (a e2) K = R) : bnd (mBef ws a env) K = R := by
  subst hw; exact k
def asgK (g : MG) (r : Res) (e : Sl) (K : Fl → Sl → Option β) : Option β := match r with
  | .dat d => (g d e).bind fun e => K .nx e
  | _ => none
theorem c_asg {g : MG} (k : bnd (m env) (fun r e => bnd (frz (r, e)) fun r e => asgK g r e K) = R) : bnd (mAsg m g env) K = R := by
  rw [← k]; unfold mAsg mFrz bnd
  cases m env with
  | none => rfl
  | some p =>
    simp only [Option.bind_some]
    cases hq : frz p with
    | none => rfl
    | some q =>
      cases q with
      | mk r e =>
        cases r with
        | dat d =>
          show ((g d e).map _).bind _ = _
          simp only [Option.bind_some, asgK]
          cases g d e <;> rfl
        | _ => rfl
theorem c_asgK {g : MG} (k : (g d e).bind (fun e => K .nx e) = R) : asgK g (.dat d) e K = R := k
end
section
variable {K : Sl → Option β}
theorem c_gname (hs : e.set j (.val d) = e2) (k : K e2 = R) : (mgName j d e).bind K = R := by
  subst hs; exact k
theorem c_gtup {gs : MGs} (k : (gs ds e).bind K = R) : (mgTup gs (.tuple ds) e).bind K = R := k
theorem c_gcons {g : MG} {gs : MGs} (k : (g d e).bind (fun e => (gs ds e).bind K) = R) : (mgCons g gs (d :: ds) e).bind K = R := by
  rw [← k]
  show ((g d e).bind _).bind K = _
  cases g d e <;> rfl
theorem c_gnil (k : K e = R) : (mgNil [] e).bind K = R := k
def subK (i : Nat) (d : PyData) (r : Res) (e : Sl) (K : Sl → Option β) : Option β := match r with
  | .dat (.int k) => (lstAt e i).bind fun q => (ixN q.2.length k).bind fun j => K (e.set i (q.1.put (.lst (q.2.set j d))))
  | _ => none
theorem c_gsub {q : Slot × List PyData} (h : lstAt e i = some q) (k : bnd (m e) (fun r e => subK i d r e K) = R) : (mgSub i m d e).bind K = R := by
  rw [← k]; unfold mgSub bnd
  rw [h]
  simp only [Option.bind_some]
  cases m e with
  | none => rfl
  | some p =>
    cases p with
    | mk r e =>
      cases r with
      | dat x =>
        cases x with
        | int z =>
          simp only [Option.bind_some, subK]
          cases lstAt e i with
          | none => rfl
          | some q =>
            simp only [Option.bind_some]
            cases ixN q.2.length z <;> rfl
        | _ => rfl
      | _ => rfl
def pSet {α : Type} (l : List α) (i : Int) (x : α) : Option (List α) := (ixN l.length i).map fun k => l.set k x
theorem c_gsubK {α : Type} {ec : α → PyData} {l : List α} {x : α} {z : Int} {s : Slot} {k : List α → Option γ} {h : γ → Option β} (h1 : lstAt e i = some (s, l.map ec)) (p : ∀ l' : List α, K (e.set i (s.put (.lst (l'.map ec)))) = (k l').bind h) : subK i (ec x) (.dat (.int z)) e K = ((pSet l z x).bind k).bind h := by
  show ((lstAt e i).bind fun q => (ixN q.2.length z).bind fun j => K (e.set i (q.1.put (.lst (q.2.set j (ec x)))))) = _
  rw [h1]
  simp only [Option.bind_some, List.length_map, pSet]
  cases ixN l.length z with
  | none => rfl
  | some n =>
    show K (e.set i (s.put (.lst ((l.map ec).set n (ec x))))) = (k (l.set n x)).bind h
    rw [← p, List.map_set]
end
end
abbrev eI : Int → PyData := PyData.int
abbrev eB : Bool → PyData := PyData.bool
abbrev eS : Str → PyData := PyData.str
abbrev eD : PyData → PyData := fun d => d
section
variable {α β γ δ ε ζ : Type}
abbrev eL (e : α → PyData) : List α → PyData := fun l => .list (l.map e)
abbrev eT2 (a : α → PyData) (b : β → PyData) : α × β → PyData := fun p => .tuple [a p.1, b p.2]
abbrev eT3 (a : α → PyData) (b : β → PyData) (c : γ → PyData) : α × β × γ → PyData := fun p => .tuple [a p.1, b p.2.1, c p.2.2]
abbrev eT5 (a : α → PyData) (b : β → PyData) (c : γ → PyData) (d : δ → PyData) (e : ε → PyData) : α × β × γ × δ × ε → PyData := fun p => .tuple [a p.1, b p.2.1, c p.2.2.1, d p.2.2.2.1, e p.2.2.2.2]
end
def gd (p : Prop) [Decidable p] : Option Unit := if p then some () else none
def pMul (i j : Int) : Option Int := if (-(2 ^ 64) < i ∧ i < 2 ^ 64) ∨ (-(2 ^ 64) < j ∧ j < 2 ^ 64) then some (i * j) else none
def pDiv (i j : Int) : Option Int := if 0 < j ∧ j < 1073741824 then some (i / j) else none
def pMod (i j : Int) : Option Int := if 0 < j then some (i % j) else none
theorem x_mul {i j : Int} : gMul (.int i) (.int j) = (pMul i j).map (fun z => .dat (.int z)) := by
  simp only [gMul, pMul]; split <;> rfl
theorem x_div {i j : Int} : gDiv (.int i) (.int j) = (pDiv i j).map (fun z => .dat (.int z)) := by
  simp only [gDiv, pDiv]; split <;> rfl
theorem x_mod {i j : Int} : gMod (.int i) (.int j) = (pMod i j).map (fun z => .dat (.int z)) := by
  simp only [gMod, pMod]; split <;> rfl
theorem x_mulL {i j : Int} (h : -(2 ^ 64) < i ∧ i < 2 ^ 64) : gMul (.int i) (.int j) = some (.dat (.int (i * j))) := by
  simp only [gMul, if_pos (Or.inl h)]
theorem x_mulR {i j : Int} (h : -(2 ^ 64) < j ∧ j < 2 ^ 64) : gMul (.int i) (.int j) = some (.dat (.int (i * j))) := by
  simp only [gMul, if_pos (Or.inr h)]
theorem x_divC {i j : Int} (h : 0 < j ∧ j < 1073741824) : gDiv (.int i) (.int j) = some (.dat (.int (i / j))) := by
  simp only [gDiv, if_pos h]
theorem x_modC {i j : Int} (h : 0 < j) : gMod (.int i) (.int j) = some (.dat (.int (i % j))) := by
  simp only [gMod, if_pos h]
theorem x_add {i j : Int} : gAdd (.int i) (.int j) = some (.dat (.int (i + j))) := rfl
theorem x_sub {i j : Int} : gMinus (.int i) (.int j) = some (.dat (.int (i - j))) := rfl
theorem x_neg {i : Int} : gNeg (.int i) = some (.dat (.int (-i))) := rfl
theorem x_cmp {p : Int → Int → Bool} {i j : Int} : gCmp p (.int i) (.int j) = some (.dat (.bool (p i j))) := rfl
theorem x_int1 {f : Int → Int} {i : Int} : gInt1 f [.int i] = some (.dat (.int (f i))) := rfl
theorem x_int2 {f : Int → Int → Int} {i j : Int} : gInt2 f [.int i, .int j] = some (.dat (.int (f i j))) := rfl
theorem x_intB {b : Bool} : gInt [.bool b] = some (.dat (.int (if b then 1 else 0))) := rfl
theorem x_eqI {neg : Bool} {a b : Int} : gEq neg (.int a) (.int b) = some (.dat (.bool (neg ^^ decide (a = b)))) := by
  simp only [gEq, scalD, Bool.true_or, if_true]
  rfl
theorem x_eqB {neg : Bool} {a b : Bool} : gEq neg (.bool a) (.bool b) = some (.dat (.bool (neg ^^ decide (a = b)))) := by
  simp only [gEq, scalD, Bool.true_or, if_true, PyData.eqv]
  cases a <;> cases b <;> rfl
theorem x_eqS {neg : Bool} {a b : Str} : gEq neg (.str a) (.str b) = some (.dat (.bool (neg ^^ decide (a = b)))) := by
  simp only [gEq, scalD, Bool.true_or, if_true]
  rfl
def pEqD (neg : Bool) (dx dy : PyData) : Option Bool := if (scalD dx dy || (SeqAt.shaped dx && SeqAt.shaped dy)) = true then some (neg ^^ PyData.eqv dx dy) else none
theorem x_eqD {neg : Bool} {dx dy : PyData} : gEq neg dx dy = (pEqD neg dx dy).map (fun z => .dat (.bool z)) := by
  simp only [gEq, pEqD]; split <;> rfl
theorem eqE_int : EqE eI := ⟨fun _ _ => rfl⟩
theorem eqE_str : EqE eS := ⟨fun _ _ => rfl⟩
theorem eqvAll_map {α : Type} [DecidableEq α] {e : α → PyData} (h : EqE e) : ∀ xs ys : List α, PyData.eqvAll (xs.map e) (ys.map e) = decide (xs = ys)
  | [], [] => rfl
  | [], _ :: _ => rfl
  | _ :: _, [] => rfl
  | x :: xs, y :: ys => by
    show (PyData.eqv (e x) (e y) && PyData.eqvAll (xs.map e) (ys.map e)) = _
    rw [eqvAll_map h xs ys, h.eq]
    simp
theorem eqE_list {α : Type} [DecidableEq α] {e : α → PyData} (h : EqE e) : EqE (eL e) := ⟨fun x y => eqvAll_map h x y⟩
theorem eqE_t5 {α β γ δ ε : Type} [DecidableEq α] [DecidableEq β] [DecidableEq γ] [DecidableEq δ] [DecidableEq ε] {a : α → PyData} {b : β → PyData} {c : γ → PyData} {d : δ → PyData} {e : ε → PyData} (ha : EqE a) (hb : EqE b) (hc : EqE c) (hd : EqE d) (he : EqE e) : EqE (eT5 a b c d e) := ⟨fun x y => by
  show (PyData.eqv (a x.1) (a y.1) && (PyData.eqv (b x.2.1) (b y.2.1) && (PyData.eqv (c x.2.2.1) (c y.2.2.1) && (PyData.eqv (d x.2.2.2.1) (d y.2.2.2.1) && (PyData.eqv (e x.2.2.2.2) (e y.2.2.2.2) && true))))) = _
  rw [ha.eq, hb.eq, hc.eq, hd.eq, he.eq]
  obtain ⟨x1, x2, x3, x4, x5⟩ := x
  obtain ⟨y1, y2, y3, y4, y5⟩ := y
  simp⟩
def pEq {α : Type} [DecidableEq α] (e : α → PyData) (neg : Bool) (x y : α) : Option Bool := if (SeqAt.shaped (e x) && SeqAt.shaped (e y)) = true then some (neg ^^ decide (x = y)) else none
theorem x_eqE {α : Type} [DecidableEq α] {e : α → PyData} (h : EqE e) {neg : Bool} {x y : α} (hs : scalD (e x) (e y) = false) : gEq neg (e x) (e y) = (pEq e neg x y).map (fun z => .dat (.bool z)) := by
  simp only [gEq, pEq, h.eq, hs, Bool.false_or]; split <;> rfl
def pIx {α : Type} (l : List α) (i : Int) : Option α := atI l i
theorem atI_map {α β : Type} (f : α → β) (l : List α) (i : Int) : atI (l.map f) i = (atI l i).map f := by
  unfold atI
  rw [List.length_map]
  cases ixN l.length i with
  | none => rfl
  | some k => simp [List.getElem?_map]
theorem x_ix {α : Type} {e : α → PyData} {l : List α} {i : Int} : gIx (.list (l.map e)) (.int i) = (pIx l i).map (fun z => .dat (e z)) := by
  show (atI (l.map e) i).map Res.dat = _
  rw [atI_map, Option.map_map]
  rfl
def pIxS (z : Str) (i : Int) : Option Str := if z.length ≤ 100000 then (atI z.cps.toList i).map fun c => ⟨#[c]⟩ else none
theorem x_ixS {z : Str} {i : Int} : gIx (.str z) (.int i) = (pIxS z i).map (fun z => .dat (.str z)) := by
  simp only [gIx, pIxS]
  split
  · rw [Option.map_map]; rfl
  · rfl
theorem x_ixT {ds : List PyData} {i : Int} {d : PyData} (h : atI ds i = some d) : gIx (.tuple ds) (.int i) = some (.dat d) := by
  simp only [gIx, h]; rfl
def pCat {α : Type} (a b : List α) : Option (List α) := if a.length + b.length ≤ 100000 then some (a ++ b) else none
theorem x_cat {α : Type} {e : α → PyData} {a b : List α} : gAdd (.list (a.map e)) (.list (b.map e)) = (pCat a b).map (fun l => .new (.lst (l.map e))) := by
  simp only [gAdd, pCat, List.length_map]
  split
  · simp
  · rfl
def pCatS (a b : Str) : Option Str := if a.length + b.length ≤ 100000 then some (a ++ b) else none
theorem x_catS {a b : Str} : gAdd (.str a) (.str b) = (pCatS a b).map (fun z => .dat (.str z)) := by
  simp only [gAdd, pCatS]; split <;> rfl
def repL {α : Type} (l : List α) (k : Int) : List α := (List.replicate k.toNat l).flatten
def pRep {α : Type} (l : List α) (k : Int) : Option (List α) := if -(2 ^ 63) ≤ k ∧ k < 2 ^ 63 ∧ l.length * k.toNat ≤ 100000 then some (repL l k) else none
theorem x_rep {α : Type} {e : α → PyData} {l : List α} {k : Int} : gMul (.list (l.map e)) (.int k) = (pRep l k).map (fun l => .new (.lst (l.map e))) := by
  simp only [gMul, pRep, List.length_map]
  split
  · simp [repD, repL, List.map_flatten, List.map_replicate]
  · rfl
theorem x_lenL {α : Type} {e : α → PyData} {l : List α} : gLen [.list (l.map e)] = some (.dat (.int l.length)) := by
  simp only [gLen, List.length_map]
theorem x_listL {ds : List PyData} : gList [.list ds] = some (.new (.lst ds)) := rfl
theorem boolsD_map : ∀ l : List Bool, boolsD (l.map .bool) = some l
  | [] => rfl
  | x :: l => by
    show (boolsD (l.map .bool)).map (x :: ·) = _
    rw [boolsD_map l]; rfl
theorem x_all {l : List Bool} : gAll [.list (l.map .bool)] = some (.dat (.bool (l.all id))) := by
  simp only [gAll, boolsD_map]; rfl
def cutL {α : Type} (l : List α) (lo hi : Option Int) : List α := (l.drop (HT.sIx l.length 0 lo)).take (HT.sIx l.length l.length hi - HT.sIx l.length 0 lo)
theorem x_cut {α : Type} {e : α → PyData} {l : List α} {lo hi : Option Int} : gSlL (.list (l.map e)) lo hi = some (.new (.lst ((cutL l lo hi).map e))) := by
  simp only [gSlL, cutD, cutL, List.length_map, List.map_take, List.map_drop]
def pApp {α : Type} (l : List α) (x : α) : Option (List α) := if l.length < 100000 then some (l ++ [x]) else none
theorem x_app {α : Type} {e : α → PyData} {l : List α} {x : α} : fApp (l.map e) [e x] = (pApp l x).map (fun l => (l.map e, .none)) := by
  simp only [fApp, pApp, List.length_map]
  split
  · simp
  · rfl
def rangeI (n : Int) : List Int := (List.range n.toNat).map fun i : Nat => (i : Int)
def pRng (n : Int) : Option (List Int) := if -(2 ^ 62) ≤ n ∧ n < 2 ^ 62 then some (rangeI n) else none
def pRng3 (i j c : Int) : Option (List Int) := if (c ≠ 0 ∧ c.natAbs < 1073741824) ∧ Builtin.Range.small i j c = true then some ((List.range (Builtin.Range.rangeSize i j c).toNat).map fun k => i + (k : Nat) * c) else none
def enumI {α : Type} : Nat → List α → List (Int × α)
  | _, [] => []
  | i, x :: l => ((i : Int), x) :: enumI (i + 1) l
theorem enum_map {α : Type} {e : α → PyData} : ∀ (i : Nat) (l : List α), enumD i (l.map e) = (enumI i l).map (eT2 eI e)
  | _, [] => rfl
  | i, x :: l => by
    show _ :: enumD (i + 1) (l.map e) = _
    rw [enum_map (i + 1) l]; rfl
theorem zip_map {α β : Type} {e : α → PyData} {f : β → PyData} : ∀ (l : List α) (l' : List β), zipD (l.map e) (l'.map f) = (l.zip l').map (eT2 e f)
  | [], _ => by cases ‹List β› <;> rfl
  | _ :: _, [] => rfl
  | x :: l, y :: l' => by
    show _ :: zipD (l.map e) (l'.map f) = _
    rw [zip_map l l']; rfl
section
variable {β γ : Type} {env e e2 : Sl} {R : Option β} {m : ME} {ms : MA} {K : List PyData → Sl → Option β} {ds : List PyData}
def itLK (r : Res) (e : Sl) (K : List PyData → Sl → Option β) : Option β := match r with
  | .dat (.list ds) => K ds e
  | _ => none
theorem c_itL (k : bnd (m env) (fun r e => bnd (frz (r, e)) fun r e => itLK r e K) = R) : bnd (mItL m env) K = R := by
  rw [← k]; unfold mItL mFrz bnd
  cases m env with
  | none => rfl
  | some p =>
    simp only [Option.bind_some]
    cases frz p with
    | none => rfl
    | some q =>
      cases q with
      | mk r e =>
        cases r with
        | dat d => cases d <;> rfl
        | _ => rfl
theorem c_itLK (k : K ds e = R) : itLK (.dat (.list ds)) e K = R := k
def itTK (r : Res) (e : Sl) (K : List PyData → Sl → Option β) : Option β := match r with
  | .dat (.tuple ds) => K ds e
  | _ => none
theorem c_itT (k : bnd (m env) (fun r e => bnd (frz (r, e)) fun r e => itTK r e K) = R) : bnd (mItT m env) K = R := by
  rw [← k]; unfold mItT mFrz bnd
  cases m env with
  | none => rfl
  | some p =>
    simp only [Option.bind_some]
    cases frz p with
    | none => rfl
    | some q =>
      cases q with
      | mk r e =>
        cases r with
        | dat d => cases d <;> rfl
        | _ => rfl
theorem c_itTK (k : K ds e = R) : itTK (.dat (.tuple ds)) e K = R := k
def rngK (rs : List Res) (e : Sl) (K : List PyData → Sl → Option β) : Option β := (rdAll e rs).bind fun ds => match ds with
  | [.int j] => (pRng j).bind fun l => K (l.map eI) e
  | _ => none
theorem c_rng (k : bnd (ms env) (fun rs e => rngK rs e K) = R) : bnd (mRange1 ms env) K = R := by
  rw [← k]; unfold mRange1 bnd rngK
  cases ms env with
  | none => rfl
  | some p =>
    simp only [Option.bind_some]
    cases rdAll p.2 p.1 with
    | none => rfl
    | some ds =>
      simp only [Option.bind_some]
      rcases ds with _ | ⟨d1, _ | ⟨d2, _ | ⟨d3, _ | ⟨d4, ds⟩⟩⟩⟩
      · rfl
      · cases d1 with
        | int i =>
          simp only [pRng]
          split
          · simp [rangeI, Function.comp_def]
          · rfl
        | _ => rfl
      · cases d1 <;> first | rfl | (cases d2 <;> first | rfl | (cases d3 <;> first | rfl | (cases d4 <;> rfl)))
      · cases d1 <;> first | rfl | (cases d2 <;> first | rfl | (cases d3 <;> first | rfl | (cases d4 <;> rfl)))
      · cases d1 <;> first | rfl | (cases d2 <;> first | rfl | (cases d3 <;> first | rfl | (cases d4 <;> rfl)))
theorem c_rngK {j : Int} {rs : List Res} {k : List Int → Option γ} {h : γ → Option β} (h1 : rdAll e rs = some [.int j]) (p : ∀ l, K (l.map eI) e = (k l).bind h) : rngK rs e K = ((pRng j).bind k).bind h := by
  unfold rngK; rw [h1]
  show ((pRng j).bind fun l => K (l.map eI) e) = _
  cases pRng j with
  | none => rfl
  | some l => exact p l
def rng3K (rs : List Res) (e : Sl) (K : List PyData → Sl → Option β) : Option β := (rdAll e rs).bind fun ds => match ds with
  | [.int i, .int j, .int c] => (pRng3 i j c).bind fun l => K (l.map eI) e
  | _ => none
theorem c_rng3 (k : bnd (ms env) (fun rs e => rng3K rs e K) = R) : bnd (mRange3 ms env) K = R := by
  rw [← k]; unfold mRange3 bnd rng3K
  cases ms env with
  | none => rfl
  | some p =>
    simp only [Option.bind_some]
    cases rdAll p.2 p.1 with
    | none => rfl
    | some ds =>
      simp only [Option.bind_some]
      rcases ds with _ | ⟨d1, _ | ⟨d2, _ | ⟨d3, _ | ⟨d4, ds⟩⟩⟩⟩
      · rfl
      · cases d1 <;> first | rfl | (cases d2 <;> first | rfl | (cases d3 <;> first | rfl | (cases d4 <;> rfl)))
      · cases d1 <;> first | rfl | (cases d2 <;> first | rfl | (cases d3 <;> first | rfl | (cases d4 <;> rfl)))
      · cases d1 with
        | int i =>
          cases d2 with
          | int j =>
            cases d3 with
            | int c =>
              simp only [pRng3]
              split
              · simp [Function.comp_def]
              · rfl
            | _ => rfl
          | _ => rfl
        | _ => rfl
      · cases d1 <;> first | rfl | (cases d2 <;> first | rfl | (cases d3 <;> first | rfl | (cases d4 <;> rfl)))
theorem c_rng3K {i j c : Int} {rs : List Res} {k : List Int → Option γ} {h : γ → Option β} (h1 : rdAll e rs = some [.int i, .int j, .int c]) (p : ∀ l, K (l.map eI) e = (k l).bind h) : rng3K rs e K = ((pRng3 i j c).bind k).bind h := by
  unfold rng3K; rw [h1]
  show ((pRng3 i j c).bind fun l => K (l.map eI) e) = _
  cases pRng3 i j c with
  | none => rfl
  | some l => exact p l
def enumK (rs : List Res) (e : Sl) (K : List PyData → Sl → Option β) : Option β := match rs with
  | [.dat (.list ds)] => K (enumD 0 ds) e
  | _ => none
theorem c_enum (k : bnd (ms env) (fun rs e => enumK rs e K) = R) : bnd (mEnum ms env) K = R := by
  rw [← k]; unfold mEnum bnd enumK
  cases ms env with
  | none => rfl
  | some p =>
    cases p with
    | mk rs e =>
      rcases rs with _ | ⟨r1, _ | ⟨r2, rs⟩⟩
      · rfl
      · cases r1 with
        | dat d => cases d <;> rfl
        | _ => rfl
      · cases r1 with
        | dat d => cases d <;> rfl
        | _ => rfl
theorem c_enumK {α : Type} {rs : List Res} {ec : α → PyData} {l : List α} (h : rs = [.dat (.list (l.map ec))]) (k : K ((enumI 0 l).map (eT2 eI ec)) e = R) : enumK rs e K = R := by
  subst h
  show K (enumD 0 (l.map ec)) e = R
  rw [enum_map]; exact k
end
section
variable {α β γ ρ σ τ : Type}
def forP (body : α → σ → Option σ) : List α → σ → Option σ
  | [], s => some s
  | x :: xs, s => (body x s).bind (forP body xs)
def Fw.on (w : Fw ρ σ) (f : ρ → β) (g : σ → β) : β := match w with
  | .rt r => f r
  | .nx s => g s
  | .bk s => g s
def forR (body : α → σ → Option (Fw ρ σ)) : List α → σ → Option (Fw ρ σ)
  | [], s => some (.nx s)
  | x :: xs, s => (body x s).bind fun w => match w with
    | .nx s => forR body xs s
    | .bk s => some (.nx s)
    | .rt r => some (.rt r)
def outN (E : σ → Sl) : σ → Fl × Sl := fun s => (.nx, E s)
def outB (oR : ρ → Res) (eR : ρ → Sl) (E : σ → Sl) : Fw ρ σ → Fl × Sl
  | .nx s => (.nx, E s)
  | .bk s => (.bk, E s)
  | .rt r => (.rt (oR r), eR r)
def outL (oR : ρ → Res) (eR : ρ → Sl) (E : σ → Sl) : Fw ρ σ → Fl × Sl
  | .nx s => (.nx, E s)
  | .bk s => (.nx, E s)
  | .rt r => (.rt (oR r), eR r)
variable {g : MG} {b : MS} {ec : α → PyData} {E : σ → Sl} {oR : ρ → Res} {eR : ρ → Sl}
theorem forL_P {body : α → σ → Option σ} (hb : ∀ x s, (g (ec x) (E s)).bind b = (body x s).map (outN E)) : ∀ (xs : List α) (s : σ), forL g b (xs.map ec) (E s) = (forP body xs s).map (outN E)
  | [], s => rfl
  | x :: xs, s => by
    show ((g (ec x) (E s)).bind fun e1 => (b e1).bind _) = _
    rw [← Option.bind_assoc, hb x s]
    show _ = Option.map _ ((body x s).bind (forP body xs))
    cases body x s with
    | none => rfl
    | some s' => exact forL_P hb xs s'
theorem forL_R {body : α → σ → Option (Fw ρ σ)} (hb : ∀ x s, (g (ec x) (E s)).bind b = (body x s).map (outB oR eR E)) : ∀ (xs : List α) (s : σ), forL g b (xs.map ec) (E s) = (forR body xs s).map (outL oR eR E)
  | [], s => rfl
  | x :: xs, s => by
    show ((g (ec x) (E s)).bind fun e1 => (b e1).bind _) = _
    rw [← Option.bind_assoc, hb x s]
    show _ = Option.map _ ((body x s).bind _)
    cases body x s with
    | none => rfl
    | some w =>
      cases w with
      | nx s' => exact forL_R hb xs s'
      | bk s' => rfl
      | rt r => rfl
variable {K : Fl → Sl → Option β} {mi : MI} {env e e2 : Sl} {R : Option β}
theorem c_for (k : bnd (mi env) (fun ds e => bnd (forL g b ds e) K) = R) : bnd (mFor mi g b env) K = R := by
  rw [← k]; unfold mFor bnd
  cases mi env <;> rfl
theorem c_loop {L : Option (Fl × Sl)} {W : Option σ} {k : σ → Option γ} {h : γ → Option β} (q : L = W.map (outN E)) (p : ∀ s, K .nx (E s) = (k s).bind h) : bnd L K = (W.bind k).bind h := c_cal2 q p
theorem c_loopR {L : Option (Fl × Sl)} {W : Option (Fw ρ σ)} {f : ρ → Option γ} {k : σ → Option γ} {h : γ → Option β} (q : L = W.map (outL oR eR E)) (p1 : ∀ r, K (.rt (oR r)) (eR r) = (f r).bind h) (p2 : ∀ s, K .nx (E s) = (k s).bind h) : bnd L K = (W.bind fun w => w.on f k).bind h := by
  subst q
  cases W with
  | none => rfl
  | some w =>
    cases w with
    | nx s => exact p2 s
    | bk s => exact p2 s
    | rt r => exact p1 r
theorem c_body {body : Option τ} {out : τ → Fl × Sl} {d : PyData} (k : (g d e).bind (fun e => bnd (b e) fun f e => some (f, e)) = body.bind fun z => some (out z)) : (g d e).bind b = body.map out := by
  have h1 : ∀ x : Option (Fl × Sl), bnd x (fun f e => some (f, e)) = x := fun x => by cases x <;> rfl
  simp only [h1] at k
  rw [k]
  cases body <;> rfl
end
section
variable {α β γ σ τ : Type}
def fmO (f : α → Option (Option τ)) : List α → Option (List τ)
  | [] => some []
  | x :: xs => (f x).bind fun y => (fmO f xs).map (y.toList ++ ·)
def mapS (f : α → σ → Option (τ × σ)) : List α → σ → Option (List τ × σ)
  | [], s => some ([], s)
  | x :: xs, s => (f x s).bind fun y => (mapS f xs y.2).map fun z => (y.1 :: z.1, z.2)
def fmS (f : α → σ → Option (Option τ × σ)) : List α → σ → Option (List τ × σ)
  | [], s => some ([], s)
  | x :: xs, s => (f x s).bind fun y => (fmS f xs y.2).map fun z => (y.1.toList ++ z.1, z.2)
def lcElt (vs : List Nat) (r : Res) (e : Sl) : Option (Option PyData × Sl) := match r with
  | .dat x => some (some x, wipeS e vs)
  | _ => none
def lcStep (g : MG) (t : MT) (me : ME) (vs : List Nat) (d : PyData) (e : Sl) : Option (Option PyData × Sl) :=
  (g d e).bind fun e1 => bnd (t e1) fun c e2 => bnd (if c = true then bnd (me e2) (fun r e => bnd (frz (r, e)) fun r e => lcElt vs r e) else some (none, wipeS e2 vs)) fun x e => some (x, e)
variable {g : MG} {t : MT} {me : ME} {vs : List Nat} {ec : α → PyData} {ed : τ → PyData} {E : σ → Sl}
theorem lcL_step (d : PyData) (ds : List PyData) (e : Sl) (acc : List PyData) : lcL g t me vs (d :: ds) e acc = (lcStep g t me vs d e).bind fun q => lcL g t me vs ds q.2 (acc ++ q.1.toList) := by
  show ((g d e).bind fun e1 => (t e1).bind fun p => if p.1 = true then (mFrz me p.2).bind _ else _) = _
  unfold lcStep bnd mFrz
  cases g d e with
  | none => rfl
  | some e1 =>
    simp only [Option.bind_some]
    cases t e1 with
    | none => rfl
    | some p =>
      cases p with
      | mk c e2 =>
        cases c with
        | false => simp
        | true =>
          simp only [Option.bind_some, if_true]
          cases me e2 with
          | none => rfl
          | some q =>
            simp only [Option.bind_some]
            cases frz (q.1, q.2) with
            | none => rfl
            | some w =>
              cases w with
              | mk r e => cases r <;> rfl
theorem lc_fmS {f : α → σ → Option (Option τ × σ)} (hb : ∀ x s, lcStep g t me vs (ec x) (E s) = (f x s).map fun z => (z.1.map ed, E z.2)) : ∀ (xs : List α) (s : σ) (acc : List PyData), lcL g t me vs (xs.map ec) (E s) acc = (fmS f xs s).map fun z => (acc ++ z.1.map ed, E z.2)
  | [], s, acc => by
    show some (acc, E s) = some (acc ++ [], E s)
    rw [List.append_nil]
  | x :: xs, s, acc => by
    rw [List.map_cons, lcL_step, hb]
    show _ = Option.map _ ((f x s).bind _)
    cases f x s with
    | none => rfl
    | some y =>
      simp only [Option.map_some, Option.bind_some]
      rw [lc_fmS hb xs y.2]
      cases fmS f xs y.2 with
      | none => rfl
      | some z =>
        cases y with
        | mk y1 y2 => cases y1 <;> simp
theorem fmS_map {f : α → σ → Option (τ × σ)} : ∀ (xs : List α) (s : σ), fmS (fun x s => (f x s).map fun z => (some z.1, z.2)) xs s = mapS f xs s
  | [], s => rfl
  | x :: xs, s => by
    show ((f x s).map _).bind _ = (f x s).bind _
    cases f x s with
    | none => rfl
    | some y =>
      simp only [Option.map_some, Option.bind_some]
      rw [fmS_map xs y.2]
      rfl
theorem lc_mapS {f : α → σ → Option (τ × σ)} (hb : ∀ x s, lcStep g t me vs (ec x) (E s) = (f x s).map fun z => (some (ed z.1), E z.2)) (xs : List α) (s : σ) : lcL g t me vs (xs.map ec) (E s) [] = (mapS f xs s).map fun z => (z.1.map ed, E z.2) := by
  rw [lc_fmS (f := fun x s => (f x s).map fun z => (some z.1, z.2)) (ed := ed), fmS_map]
  · simp
  · intro x s
    rw [hb, Option.map_map]
    rfl
variable {e : Sl}
theorem lc_fmO {f : α → Option (Option τ)} (hb : ∀ x, lcStep g t me vs (ec x) e = (f x).map fun z => (z.map ed, e)) : ∀ (xs : List α) (acc : List PyData), lcL g t me vs (xs.map ec) e acc = (fmO f xs).map fun z => (acc ++ z.map ed, e)
  | [], acc => by
    show some (acc, e) = some (acc ++ [], e)
    rw [List.append_nil]
  | x :: xs, acc => by
    rw [List.map_cons, lcL_step, hb]
    show _ = Option.map _ ((f x).bind _)
    cases f x with
    | none => rfl
    | some y =>
      simp only [Option.map_some, Option.bind_some]
      rw [lc_fmO hb xs]
      cases fmO f xs with
      | none => rfl
      | some z => cases y <;> simp
theorem fmO_map {f : α → Option τ} : ∀ (xs : List α), fmO (fun x => (f x).map some) xs = mapO f xs
  | [] => rfl
  | x :: xs => by
    show ((f x).map _).bind _ = (f x).bind _
    cases f x with
    | none => rfl
    | some y =>
      simp only [Option.map_some, Option.bind_some]
      rw [fmO_map xs]
      rfl
theorem lc_mapO {f : α → Option τ} (hb : ∀ x, lcStep g t me vs (ec x) e = (f x).map fun z => (some (ed z), e)) (xs : List α) : lcL g t me vs (xs.map ec) e [] = (mapO f xs).map fun z => (z.map ed, e) := by
  rw [lc_fmO (f := fun x => (f x).map some) (ed := ed), fmO_map]
  · simp
  · intro x
    rw [hb, Option.map_map]
    rfl
theorem mapO_map {f : α → τ} : ∀ (xs : List α), mapO (fun x => some (f x)) xs = some (xs.map f)
  | [] => rfl
  | x :: xs => by
    show (mapO _ xs).map _ = _
    rw [mapO_map xs]
    rfl
theorem lc_all {f : α → τ} (hb : ∀ x, lcStep g t me vs (ec x) e = some (some (ed (f x)), e)) (xs : List α) : lcL g t me vs (xs.map ec) e [] = some ((xs.map f).map ed, e) := by
  rw [lc_mapO (f := fun x => some (f x)) (ed := ed), mapO_map]
  · simp
  · intro x
    rw [hb]
    rfl
variable {K : Res → Sl → Option β} {mi : MI} {env e1 : Sl} {R : Option β}
def lcK (g : MG) (t : MT) (me : ME) (vs : List Nat) (ds : List PyData) (e : Sl) (K : Res → Sl → Option β) : Option β := if ds.length ≤ 100000 then bnd (lcL g t me vs ds (wipeS e vs) []) fun acc e => K (.new (.lst acc)) e else none
theorem c_lc (k : bnd (mi env) (fun ds e => lcK g t me vs ds e K) = R) : bnd (mLc mi g t me vs env) K = R := by
  rw [← k]; unfold mLc bnd lcK
  cases mi env with
  | none => rfl
  | some p =>
    simp only [Option.bind_some]
    split
    · unfold bnd
      cases lcL g t me vs p.1 (wipeS p.2 vs) [] <;> rfl
    · rfl
theorem c_lcK {xs : List α} {k : Unit → Option γ} {h : γ → Option β} (hw : wipeS e vs = e1) (p : bnd (lcL g t me vs (xs.map ec) e1 []) (fun acc e => K (.new (.lst acc)) e) = (k ()).bind h) : lcK g t me vs (xs.map ec) e K = ((gd (xs.length ≤ 100000)).bind k).bind h := by
  subst hw
  unfold lcK gd
  rw [List.length_map]
  split
  · exact p
  · rfl
theorem c_elt {K : Option PyData → Sl → Option β} {d : PyData} (hw : wipeS e vs = e1) (k : K (some d) e1 = R) : bnd (lcElt vs (.dat d) e) K = R := by
  subst hw; exact k
theorem c_step {Y : Option (Option PyData × Sl)} {d : PyData} (k : (g d e).bind (fun e1 => bnd (t e1) fun c e2 => bnd (if c = true then bnd (me e2) (fun r e => bnd (frz (r, e)) fun r e => lcElt vs r e) else some (none, wipeS e2 vs)) fun x e => some (x, e)) = Y) : lcStep g t me vs d e = Y := k
theorem c_bb {x : Option (Res × Sl)} {K : Option PyData → Sl → Option β} (k : bnd x (fun r e => bnd (frz (r, e)) fun r e => bnd (lcElt vs r e) K) = R) : bnd (bnd x (fun r e => bnd (frz (r, e)) fun r e => lcElt vs r e)) K = R := by
  rw [← k]
  cases x with
  | none => rfl
  | some p =>
    simp only [bnd, Option.bind_some]
    cases frz (p.1, p.2) <;> rfl
theorem c_iteT {a b : Option (τ × Sl)} {K : τ → Sl → Option β} (k : bnd a K = R) : bnd (if true = true then a else b) K = R := k
variable {m : ME} {ml mh : MO}
def slK (g : PyData → Option Int → Option Int → Option Res) (r : Res) (lo hi : Option Int) (e : Sl) (K : Res → Sl → Option β) : Option β := (rdv e (stab r)).bind fun dx => (g dx lo hi).bind fun r => K r e
theorem c_sl {g : PyData → Option Int → Option Int → Option Res} (k : bnd (m env) (fun r e => bnd (ml e) fun lo e => bnd (mh e) fun hi e => slK g r lo hi e K) = R) : bnd (mSl g m ml mh env) K = R := by
  rw [← k]; unfold mSl bnd slK
  cases m env with
  | none => rfl
  | some p =>
    simp only [Option.bind_some]
    cases ml p.2 with
    | none => rfl
    | some a =>
      simp only [Option.bind_some]
      cases mh a.2 with
      | none => rfl
      | some b =>
        simp only [Option.bind_some]
        cases rdv b.2 (stab p.1) with
        | none => rfl
        | some dx =>
          simp only [Option.bind_some]
          cases g dx a.1 b.1 <;> rfl
theorem c_slK {g : PyData → Option Int → Option Int → Option Res} {r : Res} {lo hi : Option Int} (dx : PyData) (h : rdv e (stab r) = some dx) (k : (g dx lo hi).bind (fun r => K r e) = R) : slK g r lo hi e K = R := by
  unfold slK; rw [h]; exact k
theorem c_slScr {i : Nat} {ns : List Int} (h : env[i]? = some (.scr ns)) (k : bnd (ml env) (fun lo e => bnd (mh e) fun hi e => K (.new (.lst ((cutL ns lo hi).map eI))) e) = R) : bnd (mSlScr i ml mh env) K = R := by
  rw [← k]; unfold mSlScr bnd
  rw [h]
  simp only
  cases ml env with
  | none => rfl
  | some a =>
    simp only [Option.bind_some]
    cases mh a.2 with
    | none => rfl
    | some b =>
      simp only [Option.map_some, Option.bind_some]
      rw [show cutD (ns.map .int) a.1 b.1 = (cutL ns a.1 b.1).map eI by simp only [cutD, cutL, List.length_map, List.map_take, List.map_drop]]
section
variable {K : Option Int → Sl → Option β}
def partK (r : Res) (e : Sl) (K : Option Int → Sl → Option β) : Option β := match r with
  | .dat (.int i) => K (some i) e
  | _ => none
theorem c_part (k : bnd (m env) (fun r e => partK r e K) = R) : bnd (mPart m env) K = R := by
  rw [← k]; unfold mPart bnd
  cases m env with
  | none => rfl
  | some p =>
    cases p with
    | mk r e =>
      cases r with
      | dat d => cases d <;> rfl
      | _ => rfl
theorem c_partK {i : Int} (k : K (some i) e = R) : partK (.dat (.int i)) e K = R := k
theorem c_noPart (k : K none env = R) : bnd (mNoPart env) K = R := k
end
variable {ms : MA}
def putUK (is : List Nat) (rs : List Res) (e : Sl) (K : Fl → Sl → Option β) : Option β := (putsRes is rs e).bind fun e => K .nx e
theorem c_putU {is : List Nat} {K : Fl → Sl → Option β} (k : bnd (ms env) (fun rs e => putUK is rs e K) = R) : bnd (mPutU is ms env) K = R := by
  rw [← k]; unfold mPutU bnd putUK
  cases ms env with
  | none => rfl
  | some p =>
    simp only [Option.bind_some]
    cases putsRes is p.1 p.2 <;> rfl
theorem c_putUK {is : List Nat} {rs : List Res} {K : Fl → Sl → Option β} (e2 : Sl) (h : putsRes is rs e = some e2) (k : K .nx e2 = R) : putUK is rs e K = R := by
  unfold putUK; rw [h]; exact k
theorem c_consU {K : List Res → Sl → Option β} (k : bnd (m env) (fun r e => bnd (frzS (r, e)) fun r e => bnd (ms e) fun rs e' => K (r :: rs) e') = R) : bnd (mConsU m ms env) K = R := by
  rw [← k]; unfold mConsU mFrzS bnd
  cases m env with
  | none => rfl
  | some p =>
    simp only [Option.bind_some]
    cases frzS p with
    | none => rfl
    | some q =>
      simp only [Option.bind_some]
      cases ms q.2 <;> rfl
theorem c_frzSD {d : PyData} (k : K (.dat d) e = R) : bnd (frzS (.dat d, e)) K = R := k
theorem c_frzSN {c : Cell} (k : K (.new c) e = R) : bnd (frzS (.new c, e)) K = R := k
end
theorem c_fm {τ : Type} {np n : Nat} {mb : MS} {ins : Sl} {Y : Option τ} {oR : τ → Res} {eR : τ → Sl} {out : τ → Res × Sl} (env : Sl) (h1 : ins.length = np) (h2 : ins ++ List.replicate (n - np) .no = env)
    (k : bnd (mb env) (fun f e => some (f, e)) = Y.bind fun z => some (.rt (oR z), eR z)) (h3 : ∀ z, finR (.rt (oR z), eR z) = some (out z).1) (h4 : ∀ z, ioKept ins (eR z) = true) (h5 : ∀ z, (eR z).take np = (out z).2) : fmOf np n mb ins = Y.map out := by
  have hk : mb env = Y.map fun z => (Fl.rt (oR z), eR z) := c_map k
  unfold fmOf
  rw [if_pos h1, h2, hk]
  cases Y with
  | none => rfl
  | some z =>
    simp only [Option.map_some, Option.bind_some, h3, h4, if_true, h5]
section
variable {β γ τ : Type} {e e2 : Sl} {i : Nat} {k : τ → Option γ} {h : γ → Option β}
theorem c_setDL {K : Fl → Sl → Option β} (enc : τ → PyData) (v : τ) (E : τ → Sl) (hs : ∀ x, e.set i (.val (enc x)) = E x) (p : ∀ x, K .nx (E x) = (k x).bind h) : setK i (.dat (enc v)) e K = ((some v).bind k).bind h := by
  show K .nx (e.set i (.val (enc v))) = _
  rw [hs]; exact p v
theorem c_setNL {τ : Type} {k : List τ → Option γ} {K : Fl → Sl → Option β} (enc : τ → PyData) (v : List τ) (E : List τ → Sl) (hs : ∀ x, e.set i (.own (.lst (x.map enc))) = E x) (p : ∀ x, K .nx (E x) = (k x).bind h) : setK i (.new (.lst (v.map enc))) e K = ((some v).bind k).bind h := by
  show K .nx (e.set i (.own (.lst (v.map enc)))) = _
  rw [hs]; exact p v
theorem c_mutP {K : Res → Sl → Option β} {f : List PyData → List PyData → Option (List PyData × PyData)} {s : Slot} {rs : List Res} {Y : Option τ} {o : τ → List PyData × PyData} (es ds : List PyData) (E : τ → Sl) (h1 : dats rs = some es) (h2 : lstAt e i = some (s, ds)) (q : f ds es = Y.map o) (hE : ∀ z, e.set i (s.put (.lst (o z).1)) = E z) (p : ∀ z, K (.dat (o z).2) (E z) = (k z).bind h) : mutK i f rs e K = (Y.bind k).bind h := by
  unfold mutK; rw [h1, h2]
  simp only [Option.bind_some, q]
  cases Y with
  | none => rfl
  | some z =>
    show K (.dat (o z).2) (e.set i (s.put (.lst (o z).1))) = _
    rw [hE]; exact p z
theorem c_gsubP {α : Type} {K : Sl → Option β} {k : List α → Option γ} (ec : α → PyData) (l : List α) (x : α) {z : Int} {s : Slot} (E : List α → Sl) (h1 : lstAt e i = some (s, l.map ec)) (hE : ∀ l', e.set i (s.put (.lst (l'.map ec))) = E l') (p : ∀ l', K (E l') = (k l').bind h) : subK i (ec x) (.dat (.int z)) e K = ((pSet l z x).bind k).bind h :=
  c_gsubK h1 fun l' => by rw [hE]; exact p l'
end
def maxI (i j : Int) : Int := if j > i then j else i
def minI (i j : Int) : Int := if j < i then j else i
def absI (i : Int) : Int := if i < 0 then -i else i
theorem x_eqI0 {a b : Int} : gEq false (.int a) (.int b) = some (.dat (.bool (decide (a = b)))) := by rw [x_eqI, Bool.false_xor]
theorem x_eqS0 {a b : Str} : gEq false (.str a) (.str b) = some (.dat (.bool (decide (a = b)))) := by rw [x_eqS, Bool.false_xor]
theorem x_eqS1 {a b : Str} : gEq true (.str a) (.str b) = some (.dat (.bool (!decide (a = b)))) := by rw [x_eqS, Bool.true_xor]
theorem x_eqB0 {a b : Bool} : gEq false (.bool a) (.bool b) = some (.dat (.bool (decide (a = b)))) := by rw [x_eqB, Bool.false_xor]
theorem x_eqB1 {a b : Bool} : gEq true (.bool a) (.bool b) = some (.dat (.bool (!decide (a = b)))) := by rw [x_eqB, Bool.true_xor]
theorem c_stepM {α τ : Type} {g : MG} {t : MT} {me : ME} {vs : List Nat} {e : Sl} {d : PyData} {Y : Option τ} {out : τ → Option PyData × Sl} (k : (g d e).bind (fun e1 => bnd (t e1) fun c e2 => bnd (if c = true then bnd (me e2) (fun r e => bnd (frz (r, e)) fun r e => lcElt vs r e) else some (none, wipeS e2 vs)) fun x e => some (x, e)) = Y.bind fun z => some (out z)) : lcStep g t me vs d e = Y.map out := by
  have h : lcStep g t me vs d e = Y.bind fun z => some (out z) := k
  rw [h]; cases Y <;> rfl
theorem inD_str (x : Str) (l : List Str) : inD (.str x) (l.map .str) = decide (x ∈ l) := by
  unfold inD inV
  induction l with
  | nil => rfl
  | cons y l ih =>
    rw [List.map_cons, List.map_cons, List.any_cons, ih]
    have : eqV (vOf (.str y)) (vOf (.str x)) = decide (y = x) := rfl
    rw [this]
    by_cases h : y = x
    · simp [h]
    · have h2 : ¬ x = y := fun z => h z.symm
      simp [h, h2, List.mem_cons]
theorem x_inS0 {x : Str} {l : List Str} : gIn false (.str x) (.list (l.map .str)) = some (.dat (.bool (decide (x ∈ l)))) := by
  have h : (l.map PyData.str).all flatD = true := by simp [flatD]
  simp only [gIn, flatD, if_true, h, inD_str, Bool.false_xor]
theorem x_inSV1 {x : Str} {l : List Str} : gIn true (.str x) (.tuple (l.map .str)) = some (.dat (.bool (!decide (x ∈ l)))) := by
  have h : (l.map PyData.str).all flatD = true := by simp [flatD]
  simp only [gIn, flatD, if_true, h, inD_str, Bool.true_xor]
section
variable {α β γ ρ σ τ : Type}
def Wp (x : Option α) (Q : α → Prop) : Prop := ∃ a, x = some a ∧ Q a
theorem wp_some {a : α} {Q : α → Prop} (q : Q a) : Wp (some a) Q := ⟨a, rfl, q⟩
theorem wp_mono {x : Option α} {Q Q' : α → Prop} (h : Wp x Q) (k : ∀ a, Q a → Q' a) : Wp x Q' := let ⟨a, e, q⟩ := h; ⟨a, e, k a q⟩
theorem wp_bind {x : Option α} {f : α → Option β} {R : α → Prop} {Q : β → Prop} (h : Wp x R) (k : ∀ a, R a → Wp (f a) Q) : Wp (x.bind f) Q := by
  obtain ⟨a, rfl, q⟩ := h
  exact k a q
theorem wp_let {v : α} {f : α → Option β} {Q : β → Prop} (k : Wp (f v) Q) : Wp ((some v).bind f) Q := k
theorem wp_be {x : Option α} {v : α} {f : α → Option β} {Q : β → Prop} (h : x = some v) (k : Wp (f v) Q) : Wp (x.bind f) Q := by
  subst h; exact k
theorem wp_if {c : Bool} {a b : Option α} {Q : α → Prop} (h1 : c = true → Wp a Q) (h2 : c = false → Wp b Q) : Wp (if c = true then a else b) Q := by
  cases c
  · exact h2 rfl
  · exact h1 rfl
theorem wp_ifd {p : Prop} [Decidable p] {a b : Option α} {Q : α → Prop} (h1 : p → Wp a Q) (h2 : ¬ p → Wp b Q) : Wp (if decide p = true then a else b) Q := by
  by_cases h : p
  · simpa [h] using h1 h
  · simpa [h] using h2 h
theorem wp_t {c : Bool} {a b : Option α} {Q : α → Prop} (h : c = true) (k : Wp a Q) : Wp (if c = true then a else b) Q := by
  rw [if_pos h]; exact k
theorem wp_f {c : Bool} {a b : Option α} {Q : α → Prop} (h : c = false) (k : Wp b Q) : Wp (if c = true then a else b) Q := by
  rw [h]; exact k
theorem gd_eq {p : Prop} [Decidable p] (h : p) : gd p = some () := if_pos h
theorem mul_eq {i j : Int} (h : (-(2 ^ 64) < i ∧ i < 2 ^ 64) ∨ (-(2 ^ 64) < j ∧ j < 2 ^ 64)) : pMul i j = some (i * j) := if_pos h
theorem div_eq {i j : Int} (h : 0 < j ∧ j < 1073741824) : pDiv i j = some (i / j) := if_pos h
theorem mod_eq {i j : Int} (h : 0 < j) : pMod i j = some (i % j) := if_pos h
theorem absI_nn (i : Int) : 0 ≤ absI i := by unfold absI; split <;> omega
theorem ix_eq {l : List α} {i : Int} {z : α} (h0 : 0 ≤ i) (h : l[i.toNat]? = some z) : pIx l i = some z := by
  have hl := (List.getElem?_eq_some_iff.mp h).1
  unfold pIx atI ixN
  rw [if_pos h0, if_pos (by omega)]
  exact h
theorem ix_wp {l : List α} {i : Int} (h0 : 0 ≤ i) (h1 : i < (l.length : Int)) : Wp (pIx l i) fun z => l[i.toNat]? = some z ∧ z ∈ l := by
  have hl : i.toNat < l.length := by omega
  have h : l[i.toNat]? = some l[i.toNat] := List.getElem?_eq_getElem hl
  exact ⟨_, ix_eq h0 h, h, List.getElem_mem hl⟩
theorem ix_zero {l : List α} {z : α} : pIx (z :: l) 0 = some z := ix_eq (by omega) rfl
theorem ix_menu {l : List α} {i : Int} (h0 : 0 ≤ i) (h1 : i < (l.length : Int)) : Wp (pIx l i) fun z => z ∈ l := wp_mono (ix_wp h0 h1) fun _ h => h.2
theorem set_eq {l : List α} {i : Int} {x : α} (h0 : 0 ≤ i) (h1 : i < (l.length : Int)) : pSet l i x = some (l.set i.toNat x) := by
  unfold pSet ixN
  rw [if_pos h0, if_pos h1]
  rfl
theorem app_eq {l : List α} {x : α} (h : l.length < 100000) : pApp l x = some (l ++ [x]) := if_pos h
theorem cat_eq {l l' : List α} (h : l.length + l'.length ≤ 100000) : pCat l l' = some (l ++ l') := if_pos h
theorem rep_eq {l : List α} {k : Int} (h : -(2 ^ 63) ≤ k ∧ k < 2 ^ 63 ∧ l.length * k.toNat ≤ 100000) : pRep l k = some (repL l k) := if_pos h
theorem rng_eq {n : Int} (h : -(2 ^ 62) ≤ n ∧ n < 2 ^ 62) : pRng n = some (rangeI n) := if_pos h
theorem rangeI_len (n : Int) : (rangeI n).length = n.toNat := by simp [rangeI]
theorem rangeI_get {n : Int} {j : Nat} {x : Int} (h : (rangeI n)[j]? = some x) : x = (j : Int) ∧ (j : Int) < n := by
  unfold rangeI at h
  rw [List.getElem?_map] at h
  obtain ⟨k, hk, rfl⟩ := Option.map_eq_some_iff.mp h
  obtain ⟨h1, h2⟩ := List.getElem?_eq_some_iff.mp hk
  rw [List.getElem_range] at h2
  rw [List.length_range] at h1
  subst h2
  exact ⟨rfl, by omega⟩
theorem enumI_len : ∀ (n : Nat) (l : List α), (enumI n l).length = l.length
  | _, [] => rfl
  | n, x :: l => by
    show (enumI (n + 1) l).length + 1 = _
    rw [enumI_len (n + 1) l]; rfl
theorem enumI_get : ∀ {l : List α} {n j : Nat} {x : Int × α}, (enumI n l)[j]? = some x → x.1 = ((n + j : Nat) : Int) ∧ l[j]? = some x.2
  | [], _, _, _, h => by simp [enumI] at h
  | a :: l, n, 0, x, h => by
    simp [enumI] at h
    subst h
    exact ⟨by simp, rfl⟩
  | a :: l, n, j + 1, x, h => by
    have h2 : (enumI (n + 1) l)[j]? = some x := by simpa [enumI] using h
    obtain ⟨h3, h4⟩ := enumI_get h2
    exact ⟨by rw [h3]; omega, by simpa using h4⟩
theorem wp_for {body : α → σ → Option σ} (I : Nat → σ → Prop) : ∀ {xs : List α} {s : σ} {n : Nat}, I n s → (∀ (j : Nat) x s, xs[j]? = some x → I (n + j) s → Wp (body x s) (I (n + j + 1))) → Wp (forP body xs s) (I (n + xs.length))
  | [], s, n, h0, _ => ⟨s, rfl, h0⟩
  | x :: xs, s, n, h0, hb => by
    refine wp_bind (hb 0 x s rfl h0) fun s' h' => ?_
    have := wp_for (body := body) I (xs := xs) (s := s') (n := n + 1) h' fun j y s hy hi => by
      have h1 := hb (j + 1) y s (by simpa using hy) (by rw [show n + (j + 1) = n + 1 + j by omega]; exact hi)
      rw [show n + (j + 1) + 1 = n + 1 + j + 1 by omega] at h1
      exact h1
    rw [List.length_cons, show n + (xs.length + 1) = n + 1 + xs.length by omega]
    exact this
theorem wp_loop {body : α → σ → Option σ} {xs : List α} {s : σ} (I : Nat → σ → Prop) (h0 : I 0 s) (hb : ∀ (j : Nat) x s, xs[j]? = some x → I j s → Wp (body x s) (I (j + 1))) : Wp (forP body xs s) (I xs.length) := by
  have := wp_for (body := body) I (xs := xs) (s := s) (n := 0) h0 fun j x s hx hi => by
    rw [Nat.zero_add] at hi ⊢
    exact hb j x s hx hi
  rwa [Nat.zero_add] at this
theorem wp_forR {body : α → σ → Option (Fw ρ σ)} (I : Nat → σ → Prop) : ∀ {xs : List α} {s : σ} {n : Nat}, I n s → (∀ (j : Nat) x s, xs[j]? = some x → I (n + j) s → Wp (body x s) fun w => ∃ s', w = .nx s' ∧ I (n + j + 1) s') → Wp (forR body xs s) fun w => ∃ s', w = .nx s' ∧ I (n + xs.length) s'
  | [], s, n, h0, _ => ⟨.nx s, rfl, s, rfl, h0⟩
  | x :: xs, s, n, h0, hb => by
    refine wp_bind (hb 0 x s rfl h0) fun w hw => ?_
    obtain ⟨s', rfl, h'⟩ := hw
    have := wp_forR (body := body) I (xs := xs) (s := s') (n := n + 1) h' fun j y s hy hi => by
      have h1 := hb (j + 1) y s (by simpa using hy) (by rw [show n + (j + 1) = n + 1 + j by omega]; exact hi)
      rw [show n + (j + 1) + 1 = n + 1 + j + 1 by omega] at h1
      exact h1
    rw [List.length_cons, show n + (xs.length + 1) = n + 1 + xs.length by omega]
    exact this
theorem wp_loopR {body : α → σ → Option (Fw ρ σ)} {xs : List α} {s : σ} (I : Nat → σ → Prop) (h0 : I 0 s) (hb : ∀ (j : Nat) x s, xs[j]? = some x → I j s → Wp (body x s) fun w => ∃ s', w = .nx s' ∧ I (j + 1) s') : Wp (forR body xs s) fun w => ∃ s', w = .nx s' ∧ I xs.length s' := by
  have := wp_forR (body := body) I (xs := xs) (s := s) (n := 0) h0 fun j x s hx hi => by
    rw [Nat.zero_add] at hi ⊢
    exact hb j x s hx hi
  rwa [Nat.zero_add] at this
theorem mapO_eq {f : α → Option τ} {g : α → τ} : ∀ {xs : List α}, (∀ x ∈ xs, f x = some (g x)) → mapO f xs = some (xs.map g)
  | [], _ => rfl
  | x :: xs, h => by
    show (f x).bind _ = _
    rw [h x List.mem_cons_self, Option.bind_some, mapO_eq fun y hy => h y (List.mem_cons_of_mem _ hy)]
    rfl
theorem mapS_wp {f : α → σ → Option (τ × σ)} (Q : τ → Prop) (I : Nat → σ → Prop) : ∀ {xs : List α} {s : σ} {n : Nat}, I n s → (∀ (j : Nat) x s, xs[j]? = some x → I (n + j) s → Wp (f x s) fun r => Q r.1 ∧ I (n + j + 1) r.2) → Wp (mapS f xs s) fun r => r.1.length = xs.length ∧ (∀ y ∈ r.1, Q y) ∧ I (n + xs.length) r.2
  | [], s, n, h0, _ => ⟨([], s), rfl, rfl, by simp, h0⟩
  | x :: xs, s, n, h0, hb => by
    obtain ⟨r, e, q1, q2⟩ := hb 0 x s rfl h0
    obtain ⟨rs, e2, g1, g2, g3⟩ := mapS_wp (f := f) Q I (xs := xs) (s := r.2) (n := n + 1) q2 fun j y s hy hi => by
      have h1 := hb (j + 1) y s (by simpa using hy) (by rw [show n + (j + 1) = n + 1 + j by omega]; exact hi)
      rw [show n + (j + 1) + 1 = n + 1 + j + 1 by omega] at h1
      exact h1
    refine ⟨(r.1 :: rs.1, rs.2), ?_, by simp [g1], ?_, ?_⟩
    · show (f x s).bind _ = _
      rw [e, Option.bind_some, e2]; rfl
    · intro z hz
      rcases List.mem_cons.mp hz with rfl | hz
      · exact q1
      · exact g2 z hz
    · rw [List.length_cons, show n + (xs.length + 1) = n + 1 + xs.length by omega]
      exact g3
theorem mapS_w {f : α → σ → Option (τ × σ)} {xs : List α} {s : σ} (Q : τ → Prop) (I : Nat → σ → Prop) (h0 : I 0 s) (hb : ∀ (j : Nat) x s, xs[j]? = some x → I j s → Wp (f x s) fun r => Q r.1 ∧ I (j + 1) r.2) : Wp (mapS f xs s) fun r => r.1.length = xs.length ∧ (∀ y ∈ r.1, Q y) ∧ I xs.length r.2 := by
  have := mapS_wp (f := f) Q I (xs := xs) (s := s) (n := 0) h0 fun j x s hx hi => by
    rw [Nat.zero_add] at hi ⊢
    exact hb j x s hx hi
  rwa [Nat.zero_add] at this
end
theorem all_trues {l : List Bool} (h : ∀ b ∈ l, b = true) : l.all id = true := by
  rw [List.all_eq_true]; exact h
section
variable {α : Type}
theorem cutL_to (l : List α) (k : Nat) : cutL l none (some (k : Int)) = l.take k := by
  unfold cutL
  rw [HT.sIx_nat, HT.sIx_none]
  simp only [List.drop_zero, Nat.sub_zero]
  by_cases h : k ≤ l.length
  · rw [Nat.min_eq_left h]
  · rw [Nat.min_eq_right (by omega), List.take_of_length_le (Nat.le_refl _), List.take_of_length_le (by omega)]
theorem cutL_len (l : List α) (lo hi : Option Int) : (cutL l lo hi).length ≤ l.length := by
  unfold cutL
  rw [List.length_take, List.length_drop]
  omega
end
section
variable {X : Cx} {K : PySem.W.Frag}
def gSlS : PyData → Option Int → Option Int → Option Res
  | .str z, lo, hi => if z.length ≤ 100000 then some (.dat (.str (cutS z lo hi))) else none
  | _, _, _ => none
theorem sd_str : SlD K rSlS gSlS := by
  intro Hk H x dx lo hi res Q e vx h q
  unfold gSlS at h
  split at h
  · split at h
    · rename_i hz
      cases h
      exact ⟨_, vx.str, sz_of hz, q _ _ (.inl ⟨rfl, .str _⟩)⟩
    · cases h
  · cases h
theorem dv_strs {Hk : Hp} : ∀ ys : List Str, DvAll K Hk (ys.map V.str) (ys.map .str)
  | [] => .nil
  | n :: ns => .cons (.str n) (dv_strs ns)
def gSplit : PyData → List PyData → Option Res
  | .str a, [.str b] => if (b.length == 0) = false ∧ a.length + 2 ≤ 100000 then some (.new (.lst ((Txt.split a b).map .str))) else none
  | _, _ => none
theorem mtd_split : MtD K (fun x xs H Q => ∃ a b, x = .str a ∧ xs = [.str b] ∧ (b.length == 0) = false ∧ a.length + 2 ≤ sizeLine ∧ rNewStrs (Txt.split a b) H Q) gSplit := by
  intro Hk H x vs d ds res Q e hx hv h q
  unfold gSplit at h
  split at h
  · split at h
    · rename_i hz
      cases h
      cases hv with
      | cons v1 v2 =>
        cases v2
        exact ⟨_, _, hx.str, by rw [v1.str], hz.1, sz_of hz.2, fun p hp => q _ _ ⟨p, _, rfl, hp, rfl, dv_strs _⟩⟩
    · cases h
  · cases h
def strsD : List PyData → Option (List Str)
  | [] => some []
  | .str i :: ds => (strsD ds).map (i :: ·)
  | _ => none
theorem strsD_map : ∀ l : List Str, strsD (l.map .str) = some l
  | [] => rfl
  | x :: l => by
    show (strsD (l.map .str)).map (x :: ·) = _
    rw [strsD_map l]; rfl
theorem strs_dv {Hk : Hp} : ∀ {ds : List PyData} {vs : List V} {ns : List Str}, DvAll K Hk vs ds → strsD ds = some ns → vs = ns.map V.str
  | [], _, ns, .nil, h => by cases h; rfl
  | .str i :: ds, _, ns, .cons h1 h2, h => by
    obtain ⟨ms, e1, rfl⟩ := Option.map_eq_some_iff.mp h
    cases h1
    rw [strs_dv h2 e1]
    rfl
  | .none :: ds, _, ns, .cons h1 h2, h => by cases h
  | .bool _ :: ds, _, ns, .cons h1 h2, h => by cases h
  | .int _ :: ds, _, ns, .cons h1 h2, h => by cases h
  | .list _ :: ds, _, ns, .cons h1 h2, h => by cases h
  | .tuple _ :: ds, _, ns, .cons h1 h2, h => by cases h
  | .dict _ :: ds, _, ns, .cons h1 h2, h => by cases h
def gJoin : PyData → List PyData → Option Res
  | .str a, [.list ds] => (strsD ds).bind fun ys => if (ys.map (·.length)).sum + ys.length * a.length ≤ 16777216 then some (.dat (.str (Txt.join a ys))) else none
  | .str a, [.tuple ds] => (strsD ds).bind fun ys => if (ys.map (·.length)).sum + ys.length * a.length ≤ 16777216 then some (.dat (.str (Txt.join a ys))) else none
  | _, _ => none
theorem mtd_join : MtD K (fun x xs H Q => ∃ a p, ∃ ys : List Str, x = .str a ∧ xs = [.ref p] ∧ (SqL K H p (ys.map V.str) ∨ SqT K H p (ys.map V.str)) ∧
    (ys.map (·.length)).sum + ys.length * a.length ≤ 16777216 ∧ Q (.str (Txt.join a ys)) H) gJoin := by
  intro Hk H x vs d ds res Q e hx hv h q
  unfold gJoin at h
  split at h
  · obtain ⟨ys, h1, h2⟩ := Option.bind_eq_some_iff.mp h
    split at h2
    · rename_i hz
      cases h2
      cases hv with
      | cons v1 v2 =>
        cases v2
        obtain ⟨p, ws, rfl, g1, g2⟩ := v1.list e
        rw [strs_dv g2 h1] at g1
        exact ⟨_, p, ys, hx.str, rfl, .inl (SqL.of g1), hz, q _ _ (.inl ⟨rfl, .str _⟩)⟩
    · cases h2
  · obtain ⟨ys, h1, h2⟩ := Option.bind_eq_some_iff.mp h
    split at h2
    · rename_i hz
      cases h2
      cases hv with
      | cons v1 v2 =>
        cases v2
        obtain ⟨p, ws, rfl, g1, g2⟩ := v1.tup e
        rw [strs_dv g2 h1] at g1
        exact ⟨_, p, ys, hx.str, rfl, .inr g1, hz, q _ _ (.inl ⟨rfl, .str _⟩)⟩
    · cases h2
  · cases h
end
def pSlS (z : Str) (lo hi : Option Int) : Option Str := if z.length ≤ 100000 then some (cutS z lo hi) else none
theorem x_slS {z : Str} {lo hi : Option Int} : gSlS (.str z) lo hi = (pSlS z lo hi).map (fun z => .dat (.str z)) := by
  simp only [gSlS, pSlS]; split <;> rfl
def pSplit (a b : Str) : Option (List Str) := if (b.length == 0) = false ∧ a.length + 2 ≤ 100000 then some (Txt.split a b) else none
theorem x_split {a b : Str} : gSplit (.str a) [.str b] = (pSplit a b).map (fun l => .new (.lst (l.map eS))) := by
  simp only [gSplit, pSplit]; split <;> rfl
def pJoin (a : Str) (ys : List Str) : Option Str := if (ys.map (·.length)).sum + ys.length * a.length ≤ 16777216 then some (Txt.join a ys) else none
theorem x_join {a : Str} {l : List Str} : gJoin (.str a) [.list (l.map .str)] = (pJoin a l).map (fun z => .dat (.str z)) := by
  simp only [gJoin, strsD_map, pJoin, Option.bind_some]; split <;> rfl
def pLenD (d : PyData) : Option Int := match d with
  | .list ds => some ds.length
  | .tuple ds => some ds.length
  | .str x => if x.length ≤ 100000 then some x.length else none
  | _ => none
theorem x_lenD {d : PyData} : gLen [d] = (pLenD d).map (fun z => .dat (.int z)) := by
  cases d with
  | str x =>
    simp only [gLen, pLenD]
    split <;> rfl
  | _ => rfl
def pIsi (T : String) (d : PyData) : Option Bool := kitB (tyN d) T
def pIsi2 (S T : String) (d : PyData) : Option Bool := (kitB (tyN d) S).bind fun b => (kitB (tyN d) T).map fun c => (b || c)
section
variable {β γ : Type} {env e e2 : Sl} {R : Option β} {m : ME} {ms : MA} {K : Res → Sl → Option β}
def isiK (T : String) (r : Res) (e : Sl) (K : Res → Sl → Option β) : Option β := (rdv e (stab r)).bind fun d => (pIsi T d).bind fun b => K (.dat (.bool b)) e
theorem c_isi {T : String} (k : bnd (m env) (fun r e => isiK T r e K) = R) : bnd (mIsi T m env) K = R := by
  rw [← k]; unfold mIsi bnd isiK pIsi
  cases m env with
  | none => rfl
  | some p =>
    simp only [Option.bind_some]
    cases rdv p.2 (stab p.1) with
    | none => rfl
    | some d =>
      simp only [Option.bind_some]
      cases kitB (tyN d) T <;> rfl
theorem c_isiK {T : String} {r : Res} {d : PyData} {k : Bool → Option γ} {h : γ → Option β} (h1 : rdv e (stab r) = some d) (p : ∀ b, K (.dat (.bool b)) e = (k b).bind h) : isiK T r e K = ((pIsi T d).bind k).bind h := by
  unfold isiK; rw [h1]
  show ((pIsi T d).bind fun b => K (.dat (.bool b)) e) = _
  cases pIsi T d with
  | none => rfl
  | some b => exact p b
def isi2K (S T : String) (r : Res) (e : Sl) (K : Res → Sl → Option β) : Option β := (rdv e (stab r)).bind fun d => (pIsi2 S T d).bind fun b => K (.dat (.bool b)) e
theorem c_isi2 {S T : String} (k : bnd (m env) (fun r e => isi2K S T r e K) = R) : bnd (mIsi2 S T m env) K = R := by
  rw [← k]; unfold mIsi2 bnd isi2K pIsi2
  cases m env with
  | none => rfl
  | some p =>
    simp only [Option.bind_some]
    cases rdv p.2 (stab p.1) with
    | none => rfl
    | some d =>
      simp only [Option.bind_some]
      cases kitB (tyN d) S with
      | none => rfl
      | some b =>
        simp only [Option.bind_some]
        cases kitB (tyN d) T <;> rfl
theorem c_isi2K {S T : String} {r : Res} {d : PyData} {k : Bool → Option γ} {h : γ → Option β} (h1 : rdv e (stab r) = some d) (p : ∀ b, K (.dat (.bool b)) e = (k b).bind h) : isi2K S T r e K = ((pIsi2 S T d).bind k).bind h := by
  unfold isi2K; rw [h1]
  show ((pIsi2 S T d).bind fun b => K (.dat (.bool b)) e) = _
  cases pIsi2 S T d with
  | none => rfl
  | some b => exact p b
end
section
variable {X : Cx} {K : PySem.W.Frag}
def zipA (x y : PyData) : Option (List PyData) := match x, y with
  | .list xs, .list ys => some (zipD xs ys)
  | .tuple xs, .tuple ys => some (zipD xs ys)
  | _, _ => none
def mZipA (ms : MA) : MI := fun env => (ms env).bind fun p => match p.1 with
  | [.dat x, .dat y] => (zipA x y).map fun ds => (ds, p.2)
  | _ => none
theorem zipA_run {ms : MA} {σ : St} {H : Hp} {R : It → Hp → Prop} (h : tI K (mZipA ms) σ H R) : RZ.iZipA K (tA K ms) σ H R := by
  obtain ⟨B, env, Hk, ds, env', R0, hm, k⟩ := h
  obtain ⟨⟨rs, e1⟩, h1, hm⟩ := Option.bind_eq_some_iff.mp hm
  refine ⟨B, env, Hk, rs, e1, R0, h1, fun vs Hk1 H1 R1 s1 o1 => ?_⟩
  split at hm
  · rename_i x y he
    obtain ⟨zs, hz, hm⟩ := Option.map_eq_some_iff.mp hm
    cases hm
    have he : rs = [.dat x, .dat y] := he
    subst he
    cases o1 with
    | cons o1 o2 =>
      cases o2 with
      | cons o2 o3 =>
        cases o3
        unfold zipA at hz
        split at hz
        · cases hz
          cases o1 with
          | lst g1 g2 =>
            cases o2 with
            | lst g3 g4 =>
              refine ⟨_, _, _, _, rfl, .inl ⟨SqL.of (R1.ex _ _ g1), SqL.of (R1.ex _ _ g3), k _ Hk1 H1 R1 s1 ?_⟩⟩
              intro Hk2 H2 s2 e2 i
              have w1 := SqL.of (K := K) (e2 _ _ (s2 _ _ g1))
              have w2 := SqL.of (K := K) (e2 _ _ (s2 _ _ g3))
              refine ⟨fun d hi => ?_, fun hl => ⟨_, _, w1, w2, by rw [g2.len, g4.len]; rw [zipD_len] at hl; omega⟩⟩
              obtain ⟨x, y, q1, q2, rfl⟩ := zipD_get _ _ i d hi
              obtain ⟨v, q3, q4⟩ := g2.get i x q1
              obtain ⟨u, q5, q6⟩ := g4.get i y q2
              refine ⟨⟨_, _, v, u, w1, w2, q3, q5⟩, fun z H' hz => ?_⟩
              obtain ⟨T, v', u', rfl, hT, rfl, hx, hy⟩ := hz
              have e3 := hx _ w1
              have e4 := hy _ w2
              rw [q3] at e3
              rw [q5] at e4
              cases e3
              cases e4
              exact .inr ⟨T, _, _, rfl, rfl, hT, rfl, .cons (dv_mono s2 _ _ q4) (.cons (dv_mono s2 _ _ q6) .nil)⟩
        · cases hz
          cases o1 with
          | tup g1 g2 =>
            cases o2 with
            | tup g3 g4 =>
              refine ⟨_, _, _, _, rfl, .inr ⟨same_tup R1.ex g1, same_tup R1.ex g3, k _ Hk1 H1 R1 s1 ?_⟩⟩
              intro Hk2 H2 s2 e2 i
              have w1 := same_tup e2 (same_tup s2 g1)
              have w2 := same_tup e2 (same_tup s2 g3)
              refine ⟨fun d hi => ?_, fun hl => ⟨_, _, w1, w2, by rw [g2.len, g4.len]; rw [zipD_len] at hl; omega⟩⟩
              obtain ⟨x, y, q1, q2, rfl⟩ := zipD_get _ _ i d hi
              obtain ⟨v, q3, q4⟩ := g2.get i x q1
              obtain ⟨u, q5, q6⟩ := g4.get i y q2
              refine ⟨⟨_, _, v, u, w1, w2, q3, q5⟩, fun z H' hz => ?_⟩
              obtain ⟨T, v', u', rfl, hT, rfl, hx, hy⟩ := hz
              have e3 := hx _ w1
              have e4 := hy _ w2
              rw [q3] at e3
              rw [q5] at e4
              cases e3
              cases e4
              exact .inr ⟨T, _, _, rfl, rfl, hT, rfl, .cons (dv_mono s2 _ _ q4) (.cons (dv_mono s2 _ _ q6) .nil)⟩
        · cases hz
  · cases hm
theorem vi_zipA {e e2 : Expr} {ms : MA} {p pos tpos : Pos} {elts : List Expr} {kk : Nat} (hm : X.mg "zip" = none) (ha : VA X [e, e2] ms) (hg : Gl X "zip" := by rfl)
    (hs : starEach [e, e2] X.env = (false, eval e X.env) :: starEach [e2] X.env := by rfl) (hpl : (backTo pos (starEach [e2] X.env)).any (·.1) = false := by rfl) :
    VI X (.Tuple elts kk tpos) (.Call (.Name "zip" p) [e, e2] [] pos) (mZipA ms) := (RZ.pi_zipA hg hm ha hs hpl).imp fun _ _ _ => zipA_run
end
section
variable {β γ : Type} {env e : Sl} {R : Option β} {ms : MA} {K : List PyData → Sl → Option β}
def pZipA (x y : PyData) : Option (List (PyData × PyData)) := match x, y with
  | .list xs, .list ys => some (xs.zip ys)
  | .tuple xs, .tuple ys => some (xs.zip ys)
  | _, _ => none
def zipAK (rs : List Res) (e : Sl) (K : List PyData → Sl → Option β) : Option β := match rs with
  | [.dat x, .dat y] => (pZipA x y).bind fun l => K (l.map (eT2 eD eD)) e
  | _ => none
theorem zipD_zip (xs ys : List PyData) : zipD xs ys = (xs.zip ys).map (eT2 eD eD) := by
  have := zip_map (e := eD) (f := eD) xs ys
  simpa using this
theorem c_zipA (k : bnd (ms env) (fun rs e => zipAK rs e K) = R) : bnd (mZipA ms env) K = R := by
  rw [← k]; unfold mZipA bnd zipAK
  cases ms env with
  | none => rfl
  | some p =>
    cases p with
    | mk rs e =>
      simp only [Option.bind_some]
      have hz : ∀ x y : PyData, ((zipA x y).map fun ds => (ds, e)).bind (fun p => K p.1 p.2) = (pZipA x y).bind fun l => K (l.map (eT2 eD eD)) e := fun x y => by
        unfold zipA pZipA
        cases x <;> cases y <;> simp [zipD_zip]
      rcases rs with _ | ⟨r1, _ | ⟨r2, _ | ⟨r3, rs⟩⟩⟩
      · rfl
      · cases r1 <;> rfl
      · cases r1 with
        | dat x =>
          cases r2 with
          | dat y => exact hz x y
          | _ => rfl
        | _ => rfl
      · cases r1 with
        | dat x => cases r2 <;> rfl
        | _ => rfl
theorem c_zipAK {x y : PyData} {rs : List Res} {k : List (PyData × PyData) → Option γ} {h : γ → Option β} (hr : rs = [.dat x, .dat y]) (p : ∀ l, K (l.map (eT2 eD eD)) e = (k l).bind h) : zipAK rs e K = ((pZipA x y).bind k).bind h := by
  subst hr
  show ((pZipA x y).bind fun l => K (l.map (eT2 eD eD)) e) = _
  cases pZipA x y with
  | none => rfl
  | some l => exact p l
end
def pIsN (neg : Bool) (d : PyData) : Bool := neg ^^ isNoneD d
theorem x_isND {neg : Bool} {d : PyData} : gIsN neg d .none = some (.dat (.bool (pIsN neg d))) := rfl
theorem kit_NoneType_list : kitB "NoneType" "list" = some false := by decide +kernel
theorem kit_NoneType_tuple : kitB "NoneType" "tuple" = some false := by decide +kernel
theorem kit_bool_bool : kitB "bool" "bool" = some true := by decide +kernel
theorem kit_bool_list : kitB "bool" "list" = some false := by decide +kernel
theorem kit_bool_tuple : kitB "bool" "tuple" = some false := by decide +kernel
theorem kit_int_bool : kitB "int" "bool" = some false := by decide +kernel
theorem kit_int_int : kitB "int" "int" = some true := by decide +kernel
theorem kit_int_str : kitB "int" "str" = some false := by decide +kernel
theorem kit_int_list : kitB "int" "list" = some false := by decide +kernel
theorem kit_int_tuple : kitB "int" "tuple" = some false := by decide +kernel
theorem kit_str_bool : kitB "str" "bool" = some false := by decide +kernel
theorem kit_str_str : kitB "str" "str" = some true := by decide +kernel
theorem kit_str_list : kitB "str" "list" = some false := by decide +kernel
theorem kit_str_tuple : kitB "str" "tuple" = some false := by decide +kernel
theorem kit_list_list : kitB "list" "list" = some true := by decide +kernel
theorem kit_list_tuple : kitB "list" "tuple" = some false := by decide +kernel
theorem kit_tuple_list : kitB "tuple" "list" = some false := by decide +kernel
theorem kit_tuple_tuple : kitB "tuple" "tuple" = some true := by decide +kernel
end Cm
namespace Cm
open PySem PySem.Spec PyProof.Rows L2
section
variable {X : Cx}
def rSetL (K : PySem.W.Frag) (w : World) : List V → Hp → VK → Prop := fun xs H Q => ∃ (l : Addr) (zs : List Int), xs = [.ref l] ∧ SqL K H l (zs.map V.int) ∧ zs.length ≤ 1000 ∧
  ∀ p c, H p = none → (∀ D : List Int, (∀ z ∈ zs, z ∈ D) → c ≤ D.length) → Q (.ref p) (upd H p (SetO w p (fun j => decide (j ∈ zs)) c))
theorem nodup_le {α : Type} [DecidableEq α] : ∀ {l D : List α}, l.Nodup → (∀ z ∈ l, z ∈ D) → l.length ≤ D.length
  | [], D, _, _ => Nat.zero_le _
  | x :: l, D, hn, hs => by
    rw [List.nodup_cons] at hn
    have hx := hs x List.mem_cons_self
    have := nodup_le (l := l) (D := D.erase x) hn.2 fun z hz => by
      refine (List.mem_erase_of_ne ?_).mpr (hs z (List.mem_cons_of_mem _ hz))
      intro e
      exact hn.1 (e ▸ hz)
    rw [List.length_erase_of_mem hx] at this
    have hp : 0 < D.length := List.length_pos_of_mem hx
    rw [List.length_cons]
    omega
end
end Cm
namespace Cm
open PySem L2
section
variable {X : Cx} {K : PySem.W.Frag}
def gCatT : PyData → PyData → Option Res
  | .tuple xs, .tuple ys => if xs ≠ [] ∧ xs.length + ys.length ≤ 100000 then some (.dat (.tuple (xs ++ ys))) else none
  | _, _ => none
theorem od_catT : OpD K (rCatT K) gCatT := by
  intro Hk H x y dx dy res Q e vx vy h q
  unfold gCatT at h
  split at h
  · rename_i xs ys
    split at h
    · rename_i hz
      cases h
      obtain ⟨a, vs, rfl, h1, h2⟩ := vx.tup e
      obtain ⟨b, ws, rfl, h3, h4⟩ := vy.tup e
      have hv : vs ≠ [] := fun z => by
        subst z
        cases h2
        exact hz.1 rfl
      refine ⟨a, b, vs, ws, rfl, rfl, h1, h3, hv, by rw [h2.len, h4.len]; exact sz_of hz.2, fun hw => ?_, fun hw p hp => ?_⟩
      · subst hw
        cases h4
        rw [List.append_nil] at q
        refine q _ _ (.inl ⟨rfl, ?_⟩)
        rcases vx with vx | ⟨_, c, _, z, _⟩
        · exact vx
        · cases c <;> cases z
      · exact q _ _ (.inr ⟨p, _, _, rfl, rfl, hp, rfl, h2.append h4⟩)
    · cases h
  · cases h
end
theorem x_catT {xs ys : List PyData} (h : xs ≠ [] ∧ xs.length + ys.length ≤ 100000) : gCatT (.tuple xs) (.tuple ys) = some (.dat (.tuple (xs ++ ys))) := by
  simp only [gCatT, if_pos h]
theorem cut_whole {ds : List PyData} {lo hi : Option Int} (h : HT.sIx ds.length 0 lo = 0 ∧ HT.sIx ds.length ds.length hi = ds.length) : cutD ds lo hi = ds := by
  unfold cutD
  rw [h.1, h.2, List.drop_zero, Nat.sub_zero, List.take_length]
def gSlT : PyData → Option Int → Option Int → Option Res
  | .tuple ds, lo, hi => some (.dat (.tuple (cutD ds lo hi)))
  | _, _, _ => none
section
variable {K : PySem.W.Frag}
theorem sd_tup : SlD K (rSlA K) gSlT := by
  intro Hk H x dx lo hi res Q e vx h q
  unfold gSlT at h
  split at h
  · rename_i ds
    cases h
    obtain ⟨a, vs, rfl, h1, h2⟩ := vx.tup e
    refine ⟨a, vs, rfl, h1, fun hw => ?_, fun _ p hp => ?_⟩
    · rw [h2.len] at hw
      rw [cut_whole hw] at q
      refine q _ _ (.inl ⟨rfl, ?_⟩)
      rcases vx with vx | ⟨_, c, _, z, _⟩
      · exact vx
      · cases c <;> cases z
    · exact q _ _ (.inr ⟨p, _, _, rfl, rfl, hp, rfl, cut_dv h2 lo hi⟩)
  · cases h
end
section
variable {X : Cx} {K : PySem.W.Frag}
theorem vi_alt {tg e : Expr} {m1 m2 : MI} (h1 : VI X tg e m1) (h2 : VI X tg e m2) : VI X tg e (fun env => (m1 env).or (m2 env)) := ⟨fun pins s σ H Q I q => by
  obtain ⟨B, env, Hk, r, env', R, hm, k⟩ := q
  cases e1 : m1 env with
  | some z =>
    simp only [e1, Option.some_or] at hm
    exact h1.run pins s σ H Q I ⟨B, env, Hk, r, env', R, by rw [e1]; exact hm, k⟩
  | none =>
    simp only [e1, Option.none_or] at hm
    exact h2.run pins s σ H Q I ⟨B, env, Hk, r, env', R, hm, k⟩⟩
def mItD (m : ME) : MI := fun env => (mItL m env).or (mItT m env)
theorem vi_dyn {tg e : Expr} {m : ME} (h : VE X e m) : VI X tg e (mItD m) := vi_alt (vi_list h) (vi_tup h)
end
def pItD (d : PyData) : Option (List PyData) := match d with
  | .list ds => some ds
  | .tuple ds => some ds
  | _ => none
section
variable {β γ : Type} {env e e2 : Sl} {R : Option β} {m : ME} {ms : MA} {K : List PyData → Sl → Option β} {ds : List PyData}
def itDK (r : Res) (e : Sl) (K : List PyData → Sl → Option β) : Option β := match r with
  | .dat d => (pItD d).bind fun l => K (l.map eD) e
  | _ => none
theorem c_itD (k : bnd (m env) (fun r e => bnd (frz (r, e)) fun r e => itDK r e K) = R) : bnd (mItD m env) K = R := by
  rw [← k]; unfold mItD mItL mItT mFrz bnd
  cases m env with
  | none => rfl
  | some p =>
    simp only [Option.bind_some]
    cases frz p with
    | none => rfl
    | some q =>
      cases q with
      | mk r e =>
        cases r with
        | dat d => cases d <;> simp [itDK, pItD]
        | _ => rfl
theorem c_itDK {d : PyData} {k : List PyData → Option γ} {h : γ → Option β} (p : ∀ l : List PyData, K (l.map eD) e = (k l).bind h) : itDK (.dat d) e K = ((pItD d).bind k).bind h := by
  show ((pItD d).bind fun l => K (l.map eD) e) = _
  cases pItD d with
  | none => rfl
  | some l => exact p l
end
theorem keyOf_keyD (k : Key) : keyOf (keyD k) = some k := by cases k <;> rfl
def dPut (es : List (PyData × PyData)) (k : Key) (d : PyData) : List (PyData × PyData) :=
  if (es.any fun p => decide (keyOf p.1 = some k)) = true then es.map (fun p => if keyOf p.1 = some k then (p.1, d) else p) else es ++ [(keyD k, d)]
def dMerge (es more : List (PyData × PyData)) : Option (List (PyData × PyData)) := match more with
  | [] => some es
  | p :: r => (keyOf p.1).bind fun k => dMerge (dPut es k p.2) r
section
variable {K : PySem.W.Frag} {Hk H : Hp}
theorem dvKv_len : ∀ {kvs : List (Key × V)} {es : List (PyData × PyData)}, DvKv K H kvs es → kvs.length = es.length
  | _, _, .nil => rfl
  | _, _, .cons _ h => by
    have := dvKv_len h
    simp [this]
theorem dvKv_get (k : Key) : ∀ {kvs : List (Key × V)} {es : List (PyData × PyData)}, DvKv K H kvs es → (valV kvs k = none ∧ dGet es k = none) ∨ ∃ v d, valV kvs k = some v ∧ dGet es k = some d ∧ Dv K H v d
  | _, _, .nil => .inl ⟨rfl, rfl⟩
  | _, _, .cons (k := j) (v := v) (d := d) h1 h2 => by
    by_cases e : j = k
    · subst e
      exact .inr ⟨v, d, valV_pos rfl, by simp [dGet, keyOf_keyD], h1⟩
    · have e2 : ¬ keyOf (keyD j) = some k := by
        rw [keyOf_keyD]
        exact fun z => e (Option.some.inj z)
      rw [valV_neg (p := (j, v)) e]
      have : ∀ r, dGet ((keyD j, d) :: r) k = dGet r k := fun r => by simp [dGet, e2]
      rw [this]
      exact dvKv_get k h2
theorem dvKv_any (k : Key) : ∀ {kvs : List (Key × V)} {es : List (PyData × PyData)}, DvKv K H kvs es → (kvs.any fun kv => decide (kv.1 = k)) = (es.any fun p => decide (keyOf p.1 = some k))
  | _, _, .nil => rfl
  | _, _, .cons h1 h2 => by
    rw [List.any_cons, List.any_cons, dvKv_any k h2]
    simp [keyOf_keyD]
theorem dvKv_repl (k : Key) {v : V} {d : PyData} (q : Dv K H v d) : ∀ {kvs : List (Key × V)} {es : List (PyData × PyData)}, DvKv K H kvs es → DvKv K H (kvs.map fun kv => if kv.1 = k then (kv.1, v) else kv) (es.map fun p => if keyOf p.1 = some k then (p.1, d) else p)
  | _, _, .nil => .nil
  | _, _, .cons (k := j) h1 h2 => by
    rw [List.map_cons, List.map_cons]
    by_cases e : j = k
    · rw [if_pos e, if_pos (by rw [keyOf_keyD, e])]
      exact .cons q (dvKv_repl k q h2)
    · rw [if_neg e, if_neg (by rw [keyOf_keyD]; exact fun z => e (Option.some.inj z))]
      exact .cons h1 (dvKv_repl k q h2)
theorem dvKv_app : ∀ {kvs kvs' : List (Key × V)} {es es' : List (PyData × PyData)}, DvKv K H kvs es → DvKv K H kvs' es' → DvKv K H (kvs ++ kvs') (es ++ es')
  | _, _, _, _, .nil, h => h
  | _, _, _, _, .cons h1 h2, h => .cons h1 (dvKv_app h2 h)
theorem dvKv_put (k : Key) {v : V} {d : PyData} (q : Dv K H v d) {kvs : List (Key × V)} {es : List (PyData × PyData)} (h : DvKv K H kvs es) : DvKv K H (putK kvs k v) (dPut es k d) := by
  unfold putK dPut
  rw [dvKv_any k h]
  split
  · exact dvKv_repl k q h
  · exact dvKv_app h (.cons q .nil)
theorem dvKv_merge : ∀ {more : List (Key × V)} {ms : List (PyData × PyData)}, DvKv K H more ms → ∀ {kvs : List (Key × V)} {es es' : List (PyData × PyData)}, DvKv K H kvs es → dMerge es ms = some es' → DvKv K H (mergeK kvs more) es'
  | _, _, .nil, _, _, _, h, e => by
    cases e
    exact h
  | _, _, .cons (k := j) h1 h2, _, _, _, h, e => by
    simp only [dMerge, keyOf_keyD, Option.bind_some] at e
    exact dvKv_merge h2 (dvKv_put j h1 h) e
theorem dvKv_at : ∀ {kvs : List (Key × V)} {es : List (PyData × PyData)}, DvKv K H kvs es → ∀ (i : Nat) (p : PyData × PyData), es[i]? = some p → ∃ k v, kvs[i]? = some (k, v) ∧ p.1 = keyD k ∧ Dv K H v p.2
  | _, _, .nil, i, p, h => by simp at h
  | _, _, .cons (k := j) (v := v) h1 h2, 0, p, h => by
    simp at h
    subst h
    exact ⟨j, v, rfl, rfl, h1⟩
  | _, _, .cons h1 h2, i + 1, p, h => by
    obtain ⟨k, v, e, q⟩ := dvKv_at h2 i p (by simpa using h)
    exact ⟨k, v, by simpa using e, q⟩
theorem key_dv (k : Key) : Dv K H (kV k) (keyD k) := by
  cases k with
  | inl i => exact .int i
  | inr x => exact .str x
end
section
variable {X : Cx} {K : PySem.W.Frag}
def rDGet : R2 := fun x y H Q => ∃ a v, x = .ref a ∧ DGet H a y (some v) ∧ Q v H
def rDIn (neg : Bool) : R2 := fun y x H Q => ∃ a o, x = .ref a ∧ DGet H a y o ∧ Q (.bl (neg ^^ o.isSome)) H
def gDGet : PyData → PyData → Option Res
  | .dict es, d => (keyOf d).bind fun k => (dGet es k).map .dat
  | _, _ => none
def gDIn (neg : Bool) : PyData → PyData → Option Res
  | d, .dict es => (keyOf d).map fun k => .dat (.bool (neg ^^ (dGet es k).isSome))
  | _, _ => none
theorem od_dget : OpD K rDGet gDGet := by
  intro Hk H x y dx dy res Q e vx vy h q
  unfold gDGet at h
  split at h
  · obtain ⟨k, h1, h⟩ := Option.bind_eq_some_iff.mp h
    obtain ⟨d, h2, rfl⟩ := Option.map_eq_some_iff.mp h
    obtain ⟨a, kvs, rfl, g1, g2⟩ := vx.dict e
    rcases dvKv_get k g2 with ⟨z1, z2⟩ | ⟨v, d', z1, z2, z3⟩
    · rw [h2] at z2
      cases z2
    · rw [h2] at z2
      cases z2
      refine ⟨a, v, rfl, .inl ⟨kvs, k, g1, vy.key h1, z1.symm⟩, q _ _ (.inl ⟨rfl, z3⟩)⟩
  · cases h
theorem od_din {neg : Bool} : OpD K (rDIn neg) (gDIn neg) := by
  intro Hk H y x dy dx res Q e vy vx h q
  unfold gDIn at h
  split at h
  · rename_i d es
    obtain ⟨k, h1, rfl⟩ := Option.map_eq_some_iff.mp h
    obtain ⟨a, kvs, rfl, g1, g2⟩ := vx.dict e
    refine ⟨a, valV kvs k, rfl, .inl ⟨kvs, k, g1, vy.key h1, rfl⟩, ?_⟩
    have : (valV kvs k).isSome = (dGet es k).isSome := by
      rcases dvKv_get k g2 with ⟨z1, z2⟩ | ⟨v, d', z1, z2, z3⟩
      · rw [z1, z2]
        rfl
      · rw [z1, z2]
        rfl
    rw [this]
    exact q _ _ (.inl ⟨rfl, .bl _⟩)
  · cases h
theorem op_din (hu : X.A.units + 64 < cLine) : OpR X (compareOp .In) (rDIn false) := by
  intro pins s σ H y x u v Q I ry rx h
  obtain ⟨a, o, ex, g, q⟩ := h
  subst ex
  obtain rfl : v = Value.ref a := rx
  exact d_in (by omega) I g ry fun s' I' => ⟨.bl o.isSome, H, I', rfl, by simpa using q⟩
theorem op_dnin (hu : X.A.units + 64 < cLine) : OpR X (compareOp .NotIn) (rDIn true) := by
  intro pins s σ H y x u v Q I ry rx h
  obtain ⟨a, o, ex, g, q⟩ := h
  subst ex
  obtain rfl : v = Value.ref a := rx
  exact d_notIn (by omega) I g ry fun s' I' => ⟨.bl (!o.isSome), H, I', rfl, by simpa using q⟩
theorem ve_dget {a b : Expr} {ma mb : ME} {pos : Pos} (hu : X.A.units + 64 < cLine) (ha : VE X a ma) (hb : VE X b mb) (hs : NoSl b) : VE X (.Subscript a b pos) (mOp gDGet ma mb) := (pe_dget (by omega) ha hb hs).imp fun _ _ _ => op_run od_dget
def mDGet2 (mo mk mx : ME) : ME := fun env => (mo env).bind fun o => (rdv o.2 (stab o.1)).bind fun d0 => match d0 with
  | .dict _ => (mk o.2).bind fun p => (mFrz mx p.2).bind fun q => match q.1 with
    | .dat dx => (rdv q.2 (stab o.1)).bind fun d => (rdv q.2 (stab p.1)).bind fun k => match d with
      | .dict es => (keyOf k).map fun k => (.dat ((dGet es k).getD dx), q.2)
      | _ => none
    | _ => none
  | _ => none
theorem dget2_run {mo mk mx : ME} {σ : St} {H : Hp} {Q : VK} (h : tE K (mDGet2 mo mk mx) σ H Q) : tDGet2 (tE K mo) (tE K mk) (tE K (mFrz mx)) σ H Q := by
  obtain ⟨B, env, Hk, res, env', R, hm, k⟩ := h
  obtain ⟨⟨x, e0⟩, h0, hm⟩ := Option.bind_eq_some_iff.mp hm
  obtain ⟨d0, g0, hm⟩ := Option.bind_eq_some_iff.mp hm
  split at hm
  · obtain ⟨⟨y, e1⟩, h1, hm⟩ := Option.bind_eq_some_iff.mp hm
    obtain ⟨⟨z, e2⟩, h2, hm⟩ := Option.bind_eq_some_iff.mp hm
    cases z with
    | new c => cases hm
    | slt i => cases hm
    | pv p => cases hm
    | dat dx =>
      obtain ⟨d, g1, hm⟩ := Option.bind_eq_some_iff.mp hm
      obtain ⟨dk, g2, hm⟩ := Option.bind_eq_some_iff.mp hm
      split at hm
      · obtain ⟨kk, g3, hm⟩ := Option.map_eq_some_iff.mp hm
        cases hm
        refine ⟨B, env, Hk, x, e0, R, h0, fun v Hk1 H1 R1 s1 o1 => ?_⟩
        obtain ⟨Hk1', R1', s1', o1'⟩ := R1.stab o1
        obtain ⟨a, kvs0, rfl, z1, _⟩ := (R1'.view o1' g0).dict R1'.ex
        refine ⟨a, rfl, .inl ⟨_, z1⟩, ?_⟩
        refine ⟨B, e0, Hk1', y, e1, R1', h1, fun w Hk2 H2 R2 s2 o2 => ?_⟩
        obtain ⟨Hk2', R2', s2', o2'⟩ := R2.stab o2
        refine ⟨B, e1, Hk2', .dat dx, e2, R2', h2, fun u Hk3 H3 R3 s3 o3 => ?_⟩
        obtain ⟨a', kvs, ea, z2, z3⟩ := (R3.view (((o1'.mono s2).mono s2').mono s3) g1).dict R3.ex
        cases ea
        refine ⟨valV kvs kk, .inl ⟨kvs, kk, z2, (R3.view (o2'.mono s3) g2).key g3, rfl⟩, ?_⟩
        refine k _ Hk3 H3 R3 ((((s1.trans s1').trans s2).trans s2').trans s3) ?_
        rcases dvKv_get kk z3 with ⟨w1, w2⟩ | ⟨v, d', w1, w2, w3⟩
        · rw [w1, w2]
          exact o3
        · rw [w1, w2]
          exact w3
      · cases hm
  · cases hm
theorem ve_dget2 {o e f : Expr} {mo mk mx : ME} {apos cpos : Pos} (hu : X.A.units + 64 < cLine) (ho : VE X o mo) (he : VE X e mk) (hx : VE X f mx) (hb : attributeBase o "get" X.env (eval o X.env) = eval o X.env := by rfl)
    (hf : ((backTo cpos (starEach [e, f] X.env)).all (fun x => !x.1) && (backToKw cpos (keywordEach [] X.env)).all (fun x => x.1.isSome) && decide (([e, f] : List Expr).length + ([] : List Keyword).length + (if ([] : List Keyword).isEmpty then 0 else 1) < 30)) = true := by rfl)
    (hl : (apos.endLine == cpos.line) = true := by rfl) (ht : backTo cpos (starEach [e, f] X.env) = [(false, eval e X.env), (false, eval f X.env)] := by rfl) : VE X (.Call (.Attribute o "get" apos) [e, f] [] cpos) (mDGet2 mo mk mx) :=
  (pe_dget2 (by omega) ho he (ve_frz hx) ⟨hb, hf, hl, ht⟩).imp fun _ _ _ => dget2_run
end
def dctAt (env : Sl) (i : Nat) : Option (Slot × List (PyData × PyData)) := match env[i]? with
  | some (.own (.dct es)) => some (.own (.dct es), es)
  | some (.io k (.dct es)) => some (.io k (.dct es), es)
  | _ => none
section
variable {X : Cx} {K : PySem.W.Frag} {B : Fb} {env : Sl} {σ : St} {Hk : Kn} {H : Hp}
theorem Rel.dctAt (R : Rel K B env σ Hk H) {i : Nat} {s : Slot} {es : List (PyData × PyData)} (h : Cm.dctAt env i = some (s, es)) : ∃ a kvs, env[i]? = some s ∧ s.mut ∧ σ[i]? = some (some (V.ref a)) ∧ H a = some (.dK kvs) ∧ DvKv K Hk kvs es := by
  unfold Cm.dctAt at h
  split at h
  · rename_i ds' e
    cases h
    obtain ⟨o, g1, a, rfl, q1, q2, vs, q3, q4⟩ := R.slot i _ e
    exact ⟨a, vs, e, trivial, g1, q3, q4⟩
  · rename_i k ds' e
    cases h
    obtain ⟨o, g1, a, rfl, q1, q2, vs, q3, q4⟩ := R.slot i _ e
    exact ⟨a, vs, e, trivial, g1, q3, q4⟩
  · cases h
def rSetD : V → V → V → Hp → (Hp → Prop) → Prop := fun o i v H Q => ∃ a H', o = .ref a ∧ DPut H a i v H' ∧ Q H'
theorem set_dict (hu : X.A.units + 64 < cLine) : PSet X rSetD := by
  intro pins s σ H o i v ov iv u Q I ro ri rv h
  obtain ⟨a, H', eo, g, q⟩ := h
  subst eo
  obtain rfl : ov = Value.ref a := ro
  exact d_setItem (by omega) I g ri rv fun s' I' => ⟨H', I', q⟩
def mgPut (i : Nat) (mi : ME) : MG := fun d env => (dctAt env i).bind fun _ => (mi env).bind fun p => match p.1 with
  | .dat dk => (keyOf dk).bind fun k => (dctAt p.2 i).bind fun q => if q.2.length < 100000 then some (p.2.set i (q.1.put (.dct (dPut q.2 k d)))) else none
  | _ => none
theorem gput_run {i : Nat} {mi : ME} {v : V} {Q : St → Hp → Prop} (h : tG K [] (mgPut i mi) v σ H Q) : gSub (tVar i) (tE K mi) rSetD v σ H Q := by
  obtain ⟨B, env, Hk, d, env', R, hd, hm, k⟩ := h
  obtain ⟨⟨s0, ds0⟩, h0, hm⟩ := Option.bind_eq_some_iff.mp hm
  obtain ⟨⟨r, e1⟩, h1, hm⟩ := Option.bind_eq_some_iff.mp hm
  obtain ⟨a, vs0, g1, g2, g3, g4, g5⟩ := R.dctAt h0
  refine ⟨_, g3, B, env, Hk, r, e1, R, h1, fun w Hk1 H1 R1 s1 o1 => ?_⟩
  cases r with
  | new c => cases hm
  | slt i => cases hm
  | pv p => cases hm
  | dat dd =>
    obtain ⟨kk, h2, hm⟩ := Option.bind_eq_some_iff.mp hm
    obtain ⟨⟨s, es⟩, h3, hm⟩ := Option.bind_eq_some_iff.mp hm
    split at hm
    · rename_i hz
      cases hm
      obtain ⟨a', kvs, q1, q2, q3, q4, q5⟩ := R1.dctAt h3
      rw [g3] at q3
      cases q3
      have hw : w = kV kk := View.key (K := K) (Hk := Hk1) (H := H1) (.inl o1) h2
      subst hw
      refine ⟨a, _, rfl, DPut.k q4 (by rw [dvKv_len q5]; exact Nat.lt_of_lt_of_le hz (by decide)), ?_⟩
      exact k σ Hk1 _ (R1.change q1 q2 g3 ⟨_, upd_same, dvKv_put kk (dv_mono s1 _ _ hd) q5⟩) s1 (fun _ _ => rfl) rfl
    · cases hm
theorem vg_put {i : Nat} {x : Str} {mi : ME} {ix : Expr} {p pos : Pos} (hu : X.A.units + 64 < cLine) (hi : VE X ix mi) (hN : X.N[i]? = some x := by rfl) (hv : Vis X.env.scope x := by first | exact Or.inl rfl | exact Or.inr (Or.inl rfl) | exact Or.inr (Or.inr rfl)) (hd : (x == ("__debug__" : Str)) = false := by decide) (hcd : (x == ("__classdict__" : Str)) = false := by decide)
    (ha : ∀ v, assign (.Subscript (.Name x p) ix pos) X.env v = (do
      let ov ← holding [v] (eval (.Name x p) X.env)
      let iv ← holding [v, ov] (eval ix X.env)
      standAt pos
      holding [v, ov, iv] (setItem ov iv v)
      release [v, ov, iv] []) := by intro _; rfl) : VG X (.Subscript (.Name x p) ix pos) [] (mgPut i mi) := (pg_sub (pe_var hN hv hd hcd) hi (set_dict hu) ha).imp fun _ _ _ _ => gput_run
theorem Rel.held {env' : Sl} {Hk' : Kn} {H' : Hp} (R : Rel K B env σ Hk H) {p : Addr} {o : HO} (h : H p = none) (R' : Rel K (B.hold p o) env' σ Hk' H') :
    Rel K B env' σ Hk' H' ∧ H' p = some o ∧ Hk' p = none ∧ (∀ (n : Nat), Hk'.P n ≠ some p) ∧ ∀ (j : Nat) s, env'[j]? = some s → s.mut → σ[j]? ≠ some (some (V.ref p)) :=
  R'.unguard (R.fresh0 h) (R.free0 (R.kfree h)) fun z => (R.oin p z).1 h
def mPairs : List (ME × ME) → Sl → Option (List (PyData × PyData) × Sl)
  | [], env => some ([], env)
  | (mk, mv) :: r, env => (mFrz mk env).bind fun p => (mFrz mv p.2).bind fun q => match p.1, q.1 with
    | .dat k, .dat d => (mPairs r q.2).map fun z => ((k, d) :: z.1, z.2)
    | _, _ => none
def tPs (K : PySem.W.Frag) (l : List (ME × ME)) (σ : St) (H : Hp) (Q : List (V × V) → Hp → Prop) : Prop := ∃ B env Hk es env', Rel K B env σ Hk H ∧ mPairs l env = some (es, env') ∧
  ∀ ps Hk' H', Rel K B env' σ Hk' H' → KSame Hk Hk' → PrsAll K Hk' ps es → Q ps H'
theorem pairs_run : ∀ {l : List (ME × ME)} {σ : St} {H : Hp} {Q : List (V × V) → Hp → Prop}, tPs K l σ H Q → tPairs (l.map fun p => (tE K (mFrz p.1), tE K (mFrz p.2))) σ H Q
  | [], σ, H, Q, h => by
    obtain ⟨B, env, Hk, es, env', R, hm, k⟩ := h
    cases hm
    exact k [] Hk H R (.refl _) .nil
  | (mk, mv) :: r, σ, H, Q, h => by
    obtain ⟨B, env, Hk, es, env', R, hm, k⟩ := h
    obtain ⟨⟨x, e1⟩, h1, hm⟩ := Option.bind_eq_some_iff.mp hm
    obtain ⟨⟨y, e2⟩, h2, hm⟩ := Option.bind_eq_some_iff.mp hm
    cases x with
    | new c => cases hm
    | slt i => cases hm
    | pv p => cases hm
    | dat dk =>
      cases y with
      | new c => cases hm
      | slt i => cases hm
      | pv p => cases hm
      | dat d =>
        obtain ⟨⟨es', e3⟩, h3, hm⟩ := Option.map_eq_some_iff.mp hm
        cases hm
        refine ⟨B, env, Hk, .dat dk, e1, R, h1, fun v Hk1 H1 R1 s1 o1 => ?_⟩
        refine ⟨B, e1, Hk1, .dat d, e2, R1, h2, fun w Hk2 H2 R2 s2 o2 => ?_⟩
        refine pairs_run ⟨B, e2, Hk2, es', _, R2, h3, fun ps Hk3 H3 R3 s3 o3 => ?_⟩
        exact k _ Hk3 H3 R3 ((s1.trans s2).trans s3) (.cons (dv_mono (s2.trans s3) _ _ o1) (dv_mono s3 _ _ o2) o3)
def keysOk (es : List (PyData × PyData)) : Bool := es.all fun p => (keyOf p.1).isSome
theorem prs_kv {Hk : Hp} : ∀ {ps : List (V × V)} {es : List (PyData × PyData)}, PrsAll K Hk ps es → keysOk es = true → ∃ kvs : List (Key × V), ps = kvs.map (fun kv => (kV kv.1, kv.2)) ∧ DvKv K Hk kvs es
  | _, _, .nil, _ => ⟨[], rfl, .nil⟩
  | _, _, .cons (k := k) (d := d) h1 h2 h3, h => by
    unfold keysOk at h
    rw [List.all_cons, Bool.and_eq_true] at h
    obtain ⟨kvs, e, q⟩ := prs_kv h3 h.2
    obtain ⟨kk, hk⟩ := Option.isSome_iff_exists.mp h.1
    have hkd : k = keyD kk := by
      cases k with
      | int i => cases hk; rfl
      | str x => cases hk; rfl
      | _ => cases hk
    have hv := View.key (K := K) (Hk := Hk) (H := Hk) (.inl h1) hk
    subst hkd hv
    exact ⟨(kk, _) :: kvs, by rw [e]; rfl, .cons h2 q⟩
def mDisp (l : List (ME × ME)) : ME := fun env => (mPairs l env).bind fun p => if keysOk p.1 = true ∧ p.1.length ≤ 15 then (dMerge [] p.1).map fun es => (.new (.dct es), p.2) else none
theorem disp_run {l : List (ME × ME)} {Q : VK} (h : tE K (mDisp l) σ H Q) : tDisp (l.map fun p => (tE K (mFrz p.1), tE K (mFrz p.2))) σ H Q := by
  obtain ⟨B, env, Hk, res, env', R, hm, k⟩ := h
  obtain ⟨⟨es, e1⟩, h1, hm⟩ := Option.bind_eq_some_iff.mp hm
  split at hm
  · rename_i hz
    obtain ⟨es', h2, hm⟩ := Option.map_eq_some_iff.mp hm
    cases hm
    intro p hp
    refine pairs_run ⟨B.hold p (.dK []), env, Hk, es, _, R.hold hp, h1, fun ps Hk1 H1 R1 s1 o1 => ?_⟩
    obtain ⟨R2, hH, hkn, hP, hn⟩ := R.held hp R1
    obtain ⟨kvs, e2, q⟩ := prs_kv o1 hz.1
    refine ⟨hH, kvs, e2, by rw [dvKv_len q]; exact hz.2, ?_⟩
    refine k _ Hk1 _ (R2.other hkn (R.fresh0 hp) hP (fun x z => by rw [hH] at z; cases z) hn) s1 ⟨p, rfl, hkn, R.fresh0 hp, ⟨_, upd_same, dvKv_merge q .nil h2⟩, hP, hn⟩
  · cases hm
theorem VPs.pps {pos : Pos} : ∀ {ks : List (Option Expr)} {vs : List Expr} {l : List (ME × ME)}, VPs X ks vs l → PPs X pos ks vs (l.map fun p => (tE X.K (mFrz p.1), tE X.K (mFrz p.2)))
  | _, _, _, .nil => pps_nil
  | _, _, _, .cons h1 h2 h3 => pps_cons (ve_frz h1) (ve_frz h2) (VPs.pps h3)
theorem ve_disp {pos : Pos} {ks : List (Option Expr)} {vs : List Expr} {l : List (ME × ME)} (h : VPs X ks vs l) (hall : ks.all (·.isSome) = true := by rfl) (hl : ks.length = vs.length := by rfl) (h0 : ks ≠ [] := by exact List.cons_ne_nil _ _) (h15 : ks.length ≤ 15 := by decide) : VE X (.Dict ks vs pos) (mDisp l) :=
  (pe_disp h.pps hall hl h0 h15).imp fun _ _ _ => disp_run
def mDNew : ME := fun env => some (.new (.dct []), env)
theorem dnew_run {Q : VK} (h : tE K mDNew σ H Q) : tDNewK σ H Q := by
  obtain ⟨B, env, Hk, res, env', R, hm, k⟩ := h
  cases hm
  intro p hp
  obtain ⟨Hk2, R2, s2, o2⟩ := R.out (r := .new (.dct [])) ⟨p, [], rfl, hp, rfl, .nil⟩
  exact k _ Hk2 _ R2 s2 o2
theorem ve_dnew {pos : Pos} : VE X (.Dict [] [] pos) mDNew := pe_dnewK.imp fun _ _ _ => dnew_run
def prsD : List PyData → Option (List (PyData × PyData))
  | [] => some []
  | .tuple [k, d] :: r => (prsD r).map ((k, d) :: ·)
  | _ :: _ => none
def gDict : List PyData → Option Res
  | [.list ds] => (prsD ds).bind fun es => if keysOk es = true then (dMerge [] es).map fun es => .new (.dct es) else none
  | _ => none
theorem prs_tup {Hk : Hp} (e : Same Hk H) : ∀ {ds : List PyData} {vs : List V} {es : List (PyData × PyData)}, DvAll K Hk vs ds → prsD ds = some es → keysOk es = true → ∃ (ps : List Addr) (kvs : List (Key × V)), vs = ps.map V.ref ∧ Paired (fun p kv => SqT K H p [kV kv.1, kv.2]) ps kvs ∧ DvKv K Hk kvs es
  | [], _, _, .nil, h, _ => by
    cases h
    exact ⟨[], [], rfl, .nil, .nil⟩
  | d :: ds, _, es, .cons h1 h2, h, hz => by
    unfold prsD at h
    split at h
    · rename_i z; cases z
    · rename_i k d' r z
      cases z
      obtain ⟨es', q1, rfl⟩ := Option.map_eq_some_iff.mp h
      unfold keysOk at hz
      rw [List.all_cons, Bool.and_eq_true] at hz
      obtain ⟨ps, kvs, e1, e2, e3⟩ := prs_tup e h2 q1 hz.2
      cases h1 with
      | tup g1 g2 =>
        cases g2 with
        | cons g2 g3 =>
          cases g3 with
          | cons g3 g4 =>
            cases g4
            obtain ⟨kk, hk⟩ := Option.isSome_iff_exists.mp hz.1
            have hkd : k = keyD kk := by
              cases k with
              | int i => cases hk; rfl
              | str x => cases hk; rfl
              | _ => cases hk
            have hv := View.key (K := K) (Hk := Hk) (H := Hk) (.inl g2) hk
            subst hkd hv
            exact ⟨_ :: ps, (kk, _) :: kvs, by rw [e1]; rfl, .cons (same_tup e g1) e2, .cons g3 e3⟩
    · cases h
theorem cd_dict : CallD K (fun xs H Q => ∃ (a : Addr) (ps : List Addr) (kvs : List (Key × V)), xs = [.ref a] ∧ SqL K H a (ps.map V.ref) ∧ Paired (fun p kv => SqT K H p [kV kv.1, kv.2]) ps kvs ∧ ∀ p, H p = none → Q (.ref p) (upd H p (.dK (mergeK [] kvs)))) gDict := by
  intro Hk H vs ds res Q e hv h q
  unfold gDict at h
  split at h
  · obtain ⟨es, h1, h⟩ := Option.bind_eq_some_iff.mp h
    split at h
    · rename_i hz
      obtain ⟨es', h2, rfl⟩ := Option.map_eq_some_iff.mp h
      cases hv with
      | cons v1 v2 =>
        cases v2
        obtain ⟨a, ws, rfl, g1, g2⟩ := v1.list e
        obtain ⟨ps, kvs, e1, e2, e3⟩ := prs_tup e g2 h1 hz
        subst e1
        exact ⟨a, ps, kvs, rfl, SqL.of g1, e2, fun p hp => q _ _ ⟨p, _, rfl, hp, rfl, dvKv_merge e3 .nil h2⟩⟩
    · cases h
  · cases h
end
def tLk (t : TE) : TE := fun σ H Q => t σ H fun x H1 => ∃ d kvs, x = .ref d ∧ H1 d = some (.dK kvs) ∧ ∀ od, Q x (upd H1 d (.frz od (.dK kvs)))
theorem pe_lk {X : Cx} {e : Expr} {t : TE} (h : PE X e t) : PE X e (tLk t) := ⟨fun pins s σ H Q I q =>
  thn (h.run pins s σ H _ I q) fun u s1 ⟨x, H1, I1, rx, d, kvs, ex, hd, q⟩ => by
    obtain ⟨od, I2⟩ := I1.lock hd trivial
    exact ⟨x, _, I2, rx, q od⟩⟩
section
variable {X : Cx} {K : PySem.W.Frag} {B : Fb} {env : Sl} {σ : St} {Hk : Kn} {H : Hp}
def mItK (m : ME) : MI := fun env => (m env).bind fun p => (lk p).map fun q => (q.1.map (·.1), q.2)
def mItI (m : ME) : MI := fun env => (m env).bind fun p => (lk p).map fun q => (q.1.map fun p => .tuple [p.1, p.2], q.2)
theorem iter_keys {d : Addr} {o : Obj} {kvs : List (Key × V)} {es : List (PyData × PyData)} (h : Hk d = some (.frz o (.dK kvs))) (hd : DvKv K Hk kvs es) : IterOk K Hk (Itk d o kvs) (es.map (·.1)) := by
  intro Hk2 H2 s2 e2 i
  have hq := e2 _ _ (s2 _ _ h)
  refine ⟨fun x hx => ?_, fun hl => ⟨hq, by rw [dvKv_len hd]; simpa using hl⟩⟩
  rw [List.getElem?_map] at hx
  obtain ⟨p, h1, rfl⟩ := Option.map_eq_some_iff.mp hx
  obtain ⟨k, v, g1, g2, g3⟩ := dvKv_at hd i p h1
  refine ⟨⟨hq, (List.getElem?_eq_some_iff.mp g1).1⟩, fun y H' z => ?_⟩
  obtain ⟨rfl, k', v', z1, rfl⟩ := z
  rw [g1] at z1
  cases z1
  rw [g2]
  exact .inl ⟨rfl, key_dv k⟩
theorem iter_items {d : Addr} {o : Obj} {kvs : List (Key × V)} {es : List (PyData × PyData)} (h : Hk d = some (.frz o (.dK kvs))) (hd : DvKv K Hk kvs es) : IterOk K Hk (Iti d o kvs) (es.map fun p => .tuple [p.1, p.2]) := by
  intro Hk2 H2 s2 e2 i
  have hq := e2 _ _ (s2 _ _ h)
  refine ⟨fun x hx => ?_, fun hl => ⟨hq, by rw [dvKv_len hd]; simpa using hl⟩⟩
  rw [List.getElem?_map] at hx
  obtain ⟨p, h1, rfl⟩ := Option.map_eq_some_iff.mp hx
  obtain ⟨k, v, g1, g2, g3⟩ := dvKv_at hd i p h1
  refine ⟨⟨hq, (List.getElem?_eq_some_iff.mp g1).1⟩, fun y H' z => ?_⟩
  obtain ⟨T, k', v', z1, rfl, z2, rfl⟩ := z
  rw [g1] at z1
  cases z1
  rw [g2]
  exact .inr ⟨T, _, _, rfl, rfl, z2, rfl, .cons (key_dv k) (.cons (dv_mono s2 _ _ g3) .nil)⟩
theorem itK_run {m : ME} {R : It → Hp → Prop} (h : tI K (mItK m) σ H R) : iKeys (tLk (tE K m)) σ H R := by
  obtain ⟨B, env, Hk, ds, env', R0, hm, k⟩ := h
  obtain ⟨⟨r, e1⟩, h1, hm⟩ := Option.bind_eq_some_iff.mp hm
  obtain ⟨⟨es, e2⟩, h2, hm⟩ := Option.map_eq_some_iff.mp hm
  cases hm
  refine ⟨B, env, Hk, r, e1, R0, h1, fun v Hk1 H1 R1 s1 o1 => ?_⟩
  obtain ⟨d, kvs, rfl, g1, g2, g3⟩ := R1.lk o1 h2
  refine ⟨d, kvs, rfl, g1, fun od => ⟨d, od, rfl, .inl ⟨kvs, upd_same, ?_⟩⟩⟩
  obtain ⟨R2, s2⟩ := g3 od
  exact k _ _ _ R2 (s1.trans s2) (iter_keys upd_same (dvKv_mono s2 g2))
theorem itI_run {m : ME} {R : It → Hp → Prop} (h : tI K (mItI m) σ H R) : iItems (tLk (tE K m)) σ H R := by
  obtain ⟨B, env, Hk, ds, env', R0, hm, k⟩ := h
  obtain ⟨⟨r, e1⟩, h1, hm⟩ := Option.bind_eq_some_iff.mp hm
  obtain ⟨⟨es, e2⟩, h2, hm⟩ := Option.map_eq_some_iff.mp hm
  cases hm
  refine ⟨B, env, Hk, r, e1, R0, h1, fun v Hk1 H1 R1 s1 o1 => ?_⟩
  obtain ⟨d, kvs, rfl, g1, g2, g3⟩ := R1.lk o1 h2
  refine ⟨d, kvs, rfl, g1, fun od => ⟨d, od, kvs, rfl, upd_same, ?_⟩⟩
  obtain ⟨R2, s2⟩ := g3 od
  exact k _ _ _ R2 (s1.trans s2) (iter_items upd_same (dvKv_mono s2 g2))
theorem vi_keys {tg e : Expr} {m : ME} (h : VE X e m) : VI X tg e (mItK m) := (pi_keys (pe_lk h)).imp fun _ _ _ => itK_run
theorem vi_items {elts : List Expr} {kk : Nat} {tpos : Pos} {e : Expr} {m : ME} {apos cpos : Pos} (h : VE X e m) (hb : attributeBase e "items" X.env (eval e X.env) = eval e X.env := by rfl) (hl : (apos.endLine == cpos.line) = true := by rfl) : VI X (.Tuple elts kk tpos) (.Call (.Attribute e "items" apos) [] [] cpos) (mItI m) := (pi_items (pe_lk h) hb hl).imp fun _ _ _ => itI_run
open PySem.W in
def alikeB (ds : List PyData) : Bool := ds.all fun d => ds.all fun d' => alike d d'
def tupB : PyData → Bool
  | .tuple (_ :: _) => true
  | _ => false
def othB : PyData → Bool
  | .none => false
  | .tuple _ => false
  | _ => true
def sortB (ds : List PyData) : Bool := (ds.all tupB || ds.all othB) && (alikeB ds && (ds.all (fun d => d.canLay0 && decide (d.depth ≤ 60)) && decide (ds.length ≤ 100000)))
theorem sort_of {ds : List PyData} (h : sortB ds = true) : PySem.W.AllAlike ds ∧ PySem.W.Sortable ds ∧ (∀ d ∈ ds, d.canLay0 = true ∧ d.depth ≤ 60) ∧ ds.length ≤ 100000 := by
  unfold sortB at h
  simp only [Bool.and_eq_true, Bool.or_eq_true, List.all_eq_true, decide_eq_true_eq] at h
  obtain ⟨h1, h2, h3, h4⟩ := h
  refine ⟨fun d hd d' hd' => ?_, ?_, fun d hd => h3 d hd, h4⟩
  · unfold alikeB at h2
    exact List.all_eq_true.mp (List.all_eq_true.mp h2 d hd) d' hd'
  · rcases h1 with h1 | h1
    · refine .inl fun d hd => ?_
      have := h1 d hd
      unfold tupB at this
      split at this
      · exact ⟨_, _, rfl⟩
      · cases this
    · refine .inr fun d hd => ?_
      have := h1 d hd
      cases d <;> simp_all [othB]
abbrev byD : V × PyData → V × PyData → Bool := PySem.W.dataLe false (fun b : V × PyData => b.2)
def sortV (xs : List V) (ds : List PyData) : List V := ((xs.zip ds).mergeSort byD).map (·.1)
def sortD (ds : List PyData) : List PyData := ds.mergeSort (PySem.W.dataLe false id)
theorem dvAll_mem {Hk : Hp} : ∀ {vs : List V} {ds : List PyData}, DvAll K Hk vs ds → ∀ p ∈ vs.zip ds, Dv K Hk p.1 p.2
  | _, _, .nil, p, h => by simp at h
  | _, _, .cons h1 h2, p, h => by
    rw [List.zip_cons_cons, List.mem_cons] at h
    rcases h with rfl | h
    · exact h1
    · exact dvAll_mem h2 p h
theorem dvAll_of {Hk : Hp} : ∀ {l : List (V × PyData)}, (∀ p ∈ l, Dv K Hk p.1 p.2) → DvAll K Hk (l.map (·.1)) (l.map (·.2))
  | [], _ => .nil
  | p :: l, h => .cons (h p List.mem_cons_self) (dvAll_of fun q hq => h q (List.mem_cons_of_mem _ hq))
theorem sort_dv {Hk : Hp} {xs : List V} {ds : List PyData} (h : DvAll K Hk xs ds) : DvAll K Hk (sortV xs ds) (sortD ds) := by
  have hl := h.len
  have e : sortD ds = ((xs.zip ds).mergeSort byD).map (·.2) := by
    have e2 : (xs.zip ds).map (fun b : V × PyData => b.2) = ds := List.map_snd_zip (by omega)
    have := List.map_mergeSort (r := byD) (s := PySem.W.dataLe false id) (f := fun b : V × PyData => b.2) (l := xs.zip ds) (fun a _ b _ => rfl)
    rw [e2] at this
    exact this.symm
  rw [e]
  unfold sortV
  exact dvAll_of fun p hp => dvAll_mem h p (List.mem_mergeSort.mp hp)
theorem sortV_len {xs : List V} {ds : List PyData} (h : xs.length = ds.length) : (sortV xs ds).length = xs.length := by
  unfold sortV
  rw [List.length_map, List.length_mergeSort, List.length_zip]
  omega
def rSortX (K : PySem.W.Frag) : List V → Hp → VK → Prop := fun vs H Q => ∃ (a : Addr) (xs : List V) (ds : List PyData), vs = [V.ref a] ∧ SqL K H a xs ∧ DpAll K H xs ds ∧ sortB ds = true ∧
  ∀ p : Addr, H p = none → Q (.ref p) (upd H p (.lst (sortV xs ds)))
theorem dpAll_len : ∀ {vs : List V} {ds : List PyData}, DpAll K H vs ds → vs.length = ds.length
  | _, _, .nil => rfl
  | _, _, .cons _ h => by
    have := dpAll_len h
    simp [this]
theorem each_zip {A : V → Value → Prop} : ∀ {xs : List V} {us : List Value} {ds : List PyData}, Paired RelV xs us → xs.length = ds.length → PySem.W.EachIs (fun (u : Value) (b : V × PyData) => RelV b.1 u) us (xs.zip ds)
  | _, _, [], .nil, _ => .nil
  | _, _, d :: ds, .cons h1 h2, hl => by
    rw [List.zip_cons_cons]
    exact .cons h1 (each_zip (A := A) h2 (by simpa using hl))
theorem each_reads {pins : List (Addr × Obj)} {s : Shared} (I : Inv X pins σ H s) : ∀ {xs : List V} {us : List Value} {ds : List PyData}, Paired RelV xs us → DpAll X.K H xs ds → PySem.W.EachIs (fun (u : Value) (b : V × PyData) => ∃ as, Reads s.heap u b.2 as) us (xs.zip ds)
  | _, _, [], .nil, _ => .nil
  | _, _, d :: ds, .cons h1 h2, hd => by
    cases hd with
    | cons d1 d2 =>
      rw [List.zip_cons_cons]
      exact .cons (Dp.reads I _ _ _ d1 h1) (each_reads I h2 d2)
theorem each_vals : ∀ {us : List Value} {bs : List (V × PyData)}, PySem.W.EachIs (fun (u : Value) (b : V × PyData) => RelV b.1 u) us bs → Vals (bs.map (·.1)) us
  | _, _, .nil => .nil
  | _, _, .cons h1 h2 => .cons h1 (each_vals h2)
theorem cr_sortX (hu : X.A.units + 64 < cLine) : CallR X (.builtin "sorted") (rSortX X.K) := by
  intro pins s σ H vs us Q I r h
  obtain ⟨a, xs, ds, rfl, hs, hd, hb, q⟩ := h
  obtain ⟨its, rv, hl, hz⟩ := I.list hs
  rw [Vals.ref1 r]
  obtain ⟨b1, b2, b3, b4⟩ := sort_of hb
  have hlen := dpAll_len hd
  have em : (xs.zip ds).map (fun b : V × PyData => b.2) = ds := List.map_snd_zip (by omega)
  refine PySem.W.sorted_data (bs := xs.zip ds) (enc := fun b : V × PyData => b.2) (R := fun (u : Value) (b : V × PyData) => RelV b.1 u) hl.isList (each_zip (A := RelV) rv hlen) (each_reads I rv hd) (by rw [em]; exact b1) (by rw [em]; exact b2) ?_ (fun b hb => ?_) fun out h1 h2 => ?_
  · rw [List.length_zip]
    exact Nat.le_trans (Nat.min_le_left _ _) hz
  · have : b.2 ∈ ds := by
      rw [← em]
      exact List.mem_map_of_mem hb
    have := (b3 _ this).2
    omega
  · obtain ⟨ep, he'⟩ := PyProof.Rows.sortedAll_at s.heap its out.toArray
    have hvals : Vals (sortV xs ds) out := each_vals h2
    have hl2 : (sortV xs ds).length ≤ sizeLine := by
      rw [sortV_len hlen]
      exact hz
    exact ⟨.ref _, upd H (s.heap.objs.size + 1) (.lst (sortV xs ds)), I.laid (t' := s.toks) (fun _ _ => PyProof.Rows.sortedAll_old) (Nat.le_succ _) ⟨hl2, out, ep, hvals, he'⟩, rfl, q _ (I.hok.fresh (Nat.le_succ _))⟩
def gSortX : List PyData → Option Res
  | [.list ds] => if sortB ds = true then some (.new (.lst (sortD ds))) else none
  | _ => none
theorem canLayAll_of : ∀ {ds : List PyData}, (∀ d ∈ ds, d.canLay0 = true) → PyData.canLayAll0 ds = true
  | [], _ => by simp [PyData.canLayAll0]
  | d :: ds, h => by
    simp only [PyData.canLayAll0, Bool.and_eq_true]
    exact ⟨h d List.mem_cons_self, canLayAll_of fun x hx => h x (List.mem_cons_of_mem _ hx)⟩
theorem cd_sortX : CallD K (rSortX K) gSortX := by
  intro Hk H vs ds res Q e hv h q
  unfold gSortX at h
  split at h
  · split at h
    · rename_i hz
      cases h
      cases hv with
      | cons v1 v2 =>
        cases v2
        obtain ⟨a, ws, rfl, g1, g2⟩ := v1.list e
        exact ⟨a, ws, _, rfl, SqL.of g1, (dvAll_mono e _ _ g2).dp _ _ (canLayAll_of fun d hd => ((sort_of hz).2.2.1 d hd).1), hz, fun p hp => q _ _ ⟨p, _, rfl, hp, rfl, sort_dv g2⟩⟩
    · cases h
  · cases h
theorem sort_tail {pins : List (Addr × Obj)} {s : Shared} {xs : List V} {us : List Value} {ds : List PyData} {E' : Value → Shared → Prop} {Q : VK} (hu : X.A.units + 64 < cLine) (I : L2.Inv X pins σ H s) (rv : Vals xs us) (hd : DpAll X.K H xs ds) (hb : sortB ds = true) (q : ∀ p, H p = none → Q (.ref p) (upd H p (.lst (sortV xs ds)))) :
    wpAny (model X.prog X.w) X.A.in1 (do
      let l ← newList us
      let _ ← holding [l] (call (.builtin "list.sort") [l] [])
      ret l) (fun f s' => ∃ v, f = .done (.ret v) ∧ EP X pins σ Q v s') E' s := by
  open PySem.W PyProof.Rows in
  · obtain ⟨b1, b2, b3, b4⟩ := sort_of hb
    have hlen := dpAll_len hd
    have hul : us.length = xs.length := rv.length.symm
    have hZ : us.length ≤ sizeLine := by rw [hul, hlen]; exact sz_of b4
    have em : (xs.zip ds).map (fun b : V × PyData => b.2) = ds := List.map_snd_zip (by omega)
    refine wpAny_bind (wpAny_newList ?_ hZ)
    have hoL : (s.heap.push (seqObj "list" us.toArray 0)).get? s.heap.objs.size = some (seqObj "list" us.toArray 0) := Heap.get?_push_size _ rfl
    show wpAny _ _ _ _ _ { s with heap := s.heap.push (seqObj "list" us.toArray 0) }
    have old : ∀ b o, s.heap.get? b = some o → (sortingHeap (s.heap.push (seqObj "list" us.toArray 0)) s.heap.objs.size us).get? b = some o := fun b o e => sortingHeap_old (Nat.ne_of_lt (Heap.lt_size e)) (Heap.get?_push_of_some _ e)
    have e0 := each_zip (A := RelV) (ds := ds) rv hlen
    have er' : EachIs (fun (u : Value) (b : V × PyData) => ∃ as, Reads (sortingHeap (s.heap.push (seqObj "list" us.toArray 0)) s.heap.objs.size us) u b.2 as) us (xs.zip ds) := (each_reads I rv hd).mono fun _ _ ⟨as, r⟩ => ⟨as, PyProof.Rows.Reads.keeps old r⟩
    have hal : AllAlike ((xs.zip ds).map fun b : V × PyData => b.2) := by rw [em]; exact b1
    refine wpAny_bind (wpAny_holding (wpAny_call_entry slot_list_sort ⟨_, hoL, rfl⟩ entry_list_sort (list_sort_vals (κ := dataKind (sortingHeap (s.heap.push (seqObj "list" us.toArray 0)) s.heap.objs.size us) ((xs.zip ds).map fun b : V × PyData => b.2)) (s := { s with heap := s.heap.push (seqObj "list" us.toArray 0) }) hoL
      (SortsAt.data (s := { s with heap := sortingHeap (s.heap.push (seqObj "list" us.toArray 0)) s.heap.objs.size us }) (each_map (R := fun v d => ∃ as, Reads (sortingHeap (s.heap.push (seqObj "list" us.toArray 0)) s.heap.objs.size us) v d as) (fun b : V × PyData => b.2) er') hal (by rw [em]; exact b2) (fun d hd' => ?_)) hZ ⟨.none, rfl, ?_⟩) (args_list_sort _)))
    · rw [em] at hd'
      have := (b3 _ hd').2
      have e1 : X.A.in1.in1.units = X.A.units + 2 := rfl
      rw [e1]
      omega
    · have h2 := sortVals_data false e0 er' hal
      obtain ⟨ep, he'⟩ := sortedHeap_at (vs := us) (out := (sortVals (dataKind (sortingHeap (s.heap.push (seqObj "list" us.toArray 0)) s.heap.objs.size us) ((xs.zip ds).map fun b : V × PyData => b.2)) false us us).toArray) hoL
      have hvals : Vals (sortV xs ds) _ := each_vals h2
      have hl2 : (sortV xs ds).length ≤ sizeLine := by
        rw [sortV_len hlen, ← hul]
        exact hZ
      refine wpAny_pure ⟨_, rfl, .ref s.heap.objs.size, upd H s.heap.objs.size (.lst (sortV xs ds)), I.laid (t' := s.toks) (fun b u e => ?_) (Nat.le_refl _) (show ObjOk X.prog X.w _ _ _ (.lst (sortV xs ds)) from ⟨hl2, _, ep, hvals, he'⟩), rfl, q _ (I.hok.fresh (Nat.le_refl _))⟩
      have hb : b < s.heap.objs.size := Heap.lt_size e
      rw [sortedHeap_old (Nat.ne_of_lt hb) (by rw [size_push']; exact Nat.lt_succ_of_lt hb)]
      exact Heap.get?_push_of_some _ e
theorem key_dp (k : Key) : Dp K H (kV k) (keyD k) := by
  cases k with
  | inl i => exact .int i
  | inr x => exact .str x
end
section
variable {X : Cx} {K : PySem.W.Frag} {B : Fb} {env : Sl} {σ : St} {Hk : Kn} {H : Hp}
def rItemsK : V → List V → Hp → VK → Prop := fun x xs H Q => ∃ (a : Addr) (kvs : List (Key × V)), x = .ref a ∧ xs = [] ∧ H a = some (.dK kvs) ∧ ∀ p, H p = none → Q (.ref p) (upd H p (DX.itemsO p a))
theorem mt_itemsK : MtR X "dict.items" rItemsK := by
  intro pins s σ H x xs v us Q I rx rxs h
  obtain ⟨a, kvs, rfl, rfl, ha, q⟩ := h
  cases rx
  cases rxs
  obtain ⟨z, hd, vs, rel, dd⟩ := dk_of I.hok ha
  obtain ⟨o, es, ep, ho, hx, hdat, _⟩ := dd
  refine DT.callItems (es := es) (ep := ep) hd ⟨o, ho, hx, hdat⟩ ?_
  exact ⟨.ref s.heap.objs.size, upd H s.heap.objs.size (DX.itemsO s.heap.objs.size a), I.laid (t' := s.toks) (fun b u e => Heap.get?_push_of_some _ e) (Nat.le_refl _) (DX.itemsO_ok (Heap.get?_push_size _ rfl)), rfl, q _ (I.hok.fresh (Nat.le_refl _))⟩
theorem kv_at : ∀ {kvs : List (Key × V)} {vs : List (Key × Value)}, KV kvs vs → ∀ (j : Nat) (p : Key × V), kvs[j]? = some p → ∃ w, vs[j]? = some w ∧ p.1 = w.1 ∧ RelV p.2 w.2 := by
  intro kvs vs r
  unfold KV at r
  induction r with
  | nil => intro j p h; simp at h
  | cons h t ih =>
    intro j p e
    cases j with
    | zero =>
      simp at e
      subst e
      exact ⟨_, rfl, h⟩
    | succ j =>
      obtain ⟨w, h1, h2⟩ := ih j p (by simpa using e)
      exact ⟨w, by simpa using h1, h2⟩
def rSortIs (K : PySem.W.Frag) : List V → Hp → VK → Prop := fun vs H Q => ∃ (p a : Addr) (kvs : List (Key × V)) (ds : List PyData), vs = [V.ref p] ∧ H p = some (DX.itemsO p a) ∧ H a = some (.dK kvs) ∧ DpAll K H (kvs.map (·.2)) ds ∧
  sortB ((kvs.zip ds).map fun q => PyData.tuple [keyD q.1.1, q.2]) = true ∧
  ∀ (H' : Hp) (as : List Addr) (l : Addr), Same H H' → as.length = kvs.length → as.Nodup → (∀ (i : Nat) (b : Addr), as[i]? = some b → H b = none ∧ ∃ kv, kvs[i]? = some kv ∧ H' b = some (.tup [kV kv.1, kv.2])) → H' l = none →
    Q (.ref l) (upd H' l (.lst (sortV (as.map V.ref) ((kvs.zip ds).map fun q => PyData.tuple [keyD q.1.1, q.2]))))
theorem each_of_get {R : V → PyData → Prop} : ∀ {xs : List V} {ds : List PyData}, xs.length = ds.length → (∀ (i : Nat) (v : V) (d : PyData), xs[i]? = some v → ds[i]? = some d → R v d) → PySem.W.EachIs R xs ds
  | [], [], _, _ => .nil
  | v :: vs, d :: ds, hl, h => .cons (h 0 v d rfl rfl) (each_of_get (by simpa using hl) fun i v d e1 e2 => h (i + 1) v d (by simpa using e1) (by simpa using e2))
  | [], _ :: _, hl, _ => by simp at hl
  | _ :: _, [], hl, _ => by simp at hl
theorem dp_of_each : ∀ {xs : List V} {ds : List PyData}, PySem.W.EachIs (fun v d => Dp K H v d) xs ds → DpAll K H xs ds
  | _, _, .nil => .nil
  | _, _, .cons h1 h2 => .cons h1 (dp_of_each h2)
theorem dpAll_get : ∀ {xs : List V} {ds : List PyData}, DpAll K H xs ds → ∀ (i : Nat) (v : V) (d : PyData), xs[i]? = some v → ds[i]? = some d → Dp K H v d
  | _, _, .nil, i, v, d, h, _ => by simp at h
  | _, _, .cons h1 h2, 0, v, d, h, h' => by
    simp at h h'
    rw [← h, ← h']
    exact h1
  | _, _, .cons h1 h2, i + 1, v, d, h, h' => dpAll_get h2 i v d (by simpa using h) (by simpa using h')
theorem cr_sortIs (hc : X.calm = true) (hu : X.A.units + 64 < cLine) : CallR X (.builtin "sorted") (rSortIs X.K) := by
  intro pins s σ H vs us Q I r h
  obtain ⟨p, a, kvs, ds, rfl, hp, hd, hdp, hb, q⟩ := h
  rw [Vals.ref1 r]
  have view : s.heap.IsItemsView p a := (show ObjOk X.prog X.w H s.heap p (DX.itemsO p a) from I.hok p _ hp).1
  obtain ⟨z, lo, vs, rel, dd⟩ := dk_of I.hok hd
  obtain ⟨es, ep, hraw, hsz, hent⟩ := Heap.DictOf.raw dd
  have hkl : kvs.length = vs.length := rel.length
  have hdl : kvs.length = ds.length := by
    have := dpAll_len hdp
    rw [List.length_map] at this
    exact this
  refine Calls.call_function_entry PyProof.Rows.kind_sorted PyProof.Rows.plain_sorted PyProof.Rows.entry_sorted (PyProof.Rows.args_sorted1 _) ?_
  unfold Builtin.«sorted»
  refine wpAny_bind (m := checkCount "sorted" 1 1 _) (wpAny_pure ?_)
  refine wpAny_bind (DT.collectI (A := X.A.in1) (es := es) (ep := ep) (I.ok.hd hc) view hraw (by rw [hsz, ← hkl]; exact z) fun h' tk as hk hlt hl hG => ?_)
  have I1 : Inv X pins σ H { s with heap := h', toks := tk } := I.kept hk
  have nd : as.Nodup := List.Pairwise.imp (fun h => Nat.ne_of_lt h) hG.rise
  have lak : as.length = kvs.length := by rw [hl, hsz, hkl]
  have pr : ∀ (j : Nat) (b : Addr), as[j]? = some b → ∃ (kv : Key × V) (u1 u2 : Value), kvs[j]? = some kv ∧ RelV (kV kv.1) u1 ∧ RelV kv.2 u2 ∧ h'.get? b = some { cls := .type "tuple", data := .seq #[u1, u2] } := by
    intro j b hj
    obtain ⟨en, he, hg⟩ := hG.pairs j b hj
    obtain ⟨hj2, he2⟩ := Array.getElem?_eq_some_iff.mp he
    have hjk : j < kvs.length := by rw [hkl, ← hsz]; exact hj2
    obtain ⟨w, hw, rk, rw'⟩ := kv_at rel j _ (List.getElem?_eq_getElem hjk)
    obtain ⟨e1, e2⟩ := hent j hj2 w.1 w.2 hw
    refine ⟨kvs[j], en.key, en.val, List.getElem?_eq_getElem hjk, ?_, ?_, hg⟩
    · rw [← he2]
      have : RelV (kV w.1) es[j].key := relV_key e1
      rw [rk]
      exact this
    · rw [← he2, e2]
      exact rw'
  obtain ⟨H2, I2, g1, g2⟩ := DX.takeT (P := fun b ws => ∃ (j : Nat) (kv : Key × V), as[j]? = some b ∧ kvs[j]? = some kv ∧ ws = [kV kv.1, kv.2]) I as H I1 nd fun b hb' => by
    obtain ⟨j, hj⟩ := List.mem_iff_getElem?.mp hb'
    obtain ⟨kv, u1, u2, k1, k2, k3, k4⟩ := pr j b hj
    have hbs : s.heap.objs.size ≤ b := Nat.le_of_lt (hG.above b hb')
    exact ⟨hbs, I.hok.fresh hbs, _, ⟨j, kv, hj, k1, rfl⟩, fun H2 => ⟨by show 2 ≤ sizeLine; decide, [u1, u2], .cons k2 (.cons k3 .nil), ⟨_, k4, rfl, _, rfl⟩⟩⟩
  have at_ : ∀ (i : Nat) (b : Addr), as[i]? = some b → H b = none ∧ ∃ kv, kvs[i]? = some kv ∧ H2 b = some (.tup [kV kv.1, kv.2]) := by
    intro i b hi
    have hm := List.mem_of_getElem? hi
    obtain ⟨ws, ⟨j, kv, k1, k2, rfl⟩, k3⟩ := g2 b hm
    have : i = j := by
      have hi' : i < as.length := (List.getElem?_eq_some_iff.mp hi).1
      exact (List.getElem?_inj hi' nd).mp (hi.trans k1.symm)
    subst this
    exact ⟨I.hok.fresh (Nat.le_of_lt (hG.above b hm)), kv, k2, k3⟩
  have hv : Vals (as.map V.ref) (as.map Value.ref) := by
    clear pr at_ g2 hG lak hl nd I2 q
    induction as with
    | nil => exact .nil
    | cons b as ih => exact .cons rfl ih
  refine sort_tail hu I2 hv (dp_of_each (each_of_get (by simp [lak, hdl]) fun i v d e1 e2 => ?_)) hb fun l hl' => q H2 as l g1 lak nd at_ hl'
  rw [List.getElem?_map] at e1 e2
  obtain ⟨b, b1, rfl⟩ := Option.map_eq_some_iff.mp e1
  obtain ⟨⟨kv', d'⟩, b2, rfl⟩ := Option.map_eq_some_iff.mp e2
  obtain ⟨_, kv, k1, k2⟩ := at_ i b b1
  rw [List.getElem?_zip_eq_some] at b2
  have : kv = kv' := Option.some.inj (k1.symm.trans b2.1)
  subst this
  exact .tup (SqT.of k2) (.cons (key_dp kv.1) (.cons (dp_mono g1 (dpAll_get hdp i kv.2 d' (by rw [List.getElem?_map, k1]; rfl) b2.2)) .nil))
def dctOf : Res × Sl → Option (List (PyData × PyData))
  | (.new (.dct es), _) => some es
  | (.slt i, e) => match e[i]? with
    | some (.own (.dct es)) => some es
    | some (.io _ (.dct es)) => some es
    | _ => none
  | (.pv (.ref n), e) => match (sto e)[n]? with
    | some (.dct es) => datsK es
    | _ => none
  | _ => none
theorem Rel.dctOf (R : Rel K B env σ Hk H) {r : Res} {v : V} {es : List (PyData × PyData)} (o : ResOk K B env σ Hk H r v) (h : Cm.dctOf (r, env) = some es) : ∃ a kvs, v = .ref a ∧ H a = some (.dK kvs) ∧ DvKv K Hk kvs es := by
  cases r with
  | dat d => cases h
  | pv p =>
    cases p with
    | dat d => cases h
    | tup ps => cases h
    | ref n =>
      unfold Cm.dctOf at h
      cases hc : (sto env)[n]? with
      | none => simp only [hc] at h; cases h
      | some c =>
        obtain ⟨hS, a, g1, g2, g3⟩ := R.stoAt hc
        cases o with
        | ref q =>
          rw [q] at g1
          cases g1
          simp only [hc] at h
          cases c with
          | dct es' =>
            obtain ⟨kvs, h4, h5⟩ := g2
            exact ⟨_, kvs, rfl, h4, datsK_dv h5 h⟩
          | _ => cases h
  | new c =>
    cases c with
    | lst ds => cases h
    | dct es' =>
      cases h
      obtain ⟨a, rfl, h1, h2, ⟨kvs, h3, h4⟩, h5⟩ := o
      exact ⟨a, kvs, rfl, h3, h4⟩
  | slt i =>
    unfold Cm.dctOf at h
    have o : σ[i]? = some (some v) := o
    cases q : env[i]? with
    | none => simp only [q] at h; cases h
    | some s =>
      simp only [q] at h
      obtain ⟨o', g1, g2⟩ := R.slot i _ q
      rw [o] at g1
      cases g1
      cases s with
      | no => cases h
      | scr ns => cases h
      | pin a => cases h
      | pv p => cases h
      | sto M => cases h
      | val d => cases h
      | own c =>
        cases c with
        | lst ds => cases h
        | dct es' =>
          cases h
          obtain ⟨a, e1, q1, q2, kvs, q3, q4⟩ := g2
          cases e1
          exact ⟨a, kvs, rfl, q3, q4⟩
      | io k c =>
        cases c with
        | lst ds => cases h
        | dct es' =>
          cases h
          obtain ⟨a, e1, q1, q2, kvs, q3, q4⟩ := g2
          cases e1
          exact ⟨a, kvs, rfl, q3, q4⟩
def mSortIs (m : ME) : ME := fun env => (m env).bind fun p => (dctOf p).bind fun es => if sortB (es.map fun p => .tuple [p.1, p.2]) = true then some (.new (.lst (sortD (es.map fun p => .tuple [p.1, p.2]))), p.2) else none
theorem dvKv_vals : ∀ {kvs : List (Key × V)} {es : List (PyData × PyData)}, DvKv K H kvs es → DvAll K H (kvs.map (·.2)) (es.map (·.2))
  | _, _, .nil => .nil
  | _, _, .cons h h2 => .cons h (dvKv_vals h2)
theorem zip_prs : ∀ {kvs : List (Key × V)} {es : List (PyData × PyData)}, DvKv K H kvs es → (kvs.zip (es.map (·.2))).map (fun q => PyData.tuple [keyD q.1.1, q.2]) = es.map fun p => .tuple [p.1, p.2]
  | _, _, .nil => rfl
  | _, _, .cons _ h => by
    rw [List.map_cons, List.zip_cons_cons, List.map_cons, List.map_cons, zip_prs h]
open Classical in
noncomputable def kwith (Hk H : Hp) (as : List Addr) : Hp := fun a => if a ∈ as then H a else Hk a
theorem sortIs_run {m : ME} {Q : VK} (h : tE K (mSortIs m) σ H Q) : tCB (rSortIs K) (tCons (tBM0 K "dict" rItemsK (tE K m)) tNil) σ H Q := by
  obtain ⟨B, env, Hk, res, env', R, hm, k⟩ := h
  obtain ⟨⟨r, e1⟩, h1, hm⟩ := Option.bind_eq_some_iff.mp hm
  obtain ⟨es, h2, hm⟩ := Option.bind_eq_some_iff.mp hm
  split at hm
  · rename_i hz
    cases hm
    refine ⟨B, env, Hk, r, e1, R, h1, fun v Hk1 H1 R1 s1 o1 => ?_⟩
    obtain ⟨a, kvs, rfl, g1, g2⟩ := R1.dctOf o1 h2
    refine ⟨.inr (.inr (.inl ⟨rfl, .inl ⟨_, g1⟩⟩)), a, kvs, rfl, rfl, g1, fun p hp => ?_⟩
    have sm : Same H1 (upd H1 p (DX.itemsO p a)) := same_upd hp
    have R2 : Rel K B e1 σ Hk1 (upd H1 p (DX.itemsO p a)) := R1.laid hp
    have dv := dvKv_vals g2
    have zp := zip_prs g2
    have cl : ∀ d ∈ es.map (·.2), d.canLay0 = true := fun d hd => by
      obtain ⟨q, hq, rfl⟩ := List.mem_map.mp hd
      have := ((sort_of hz).2.2.1 _ (List.mem_map_of_mem hq)).1
      simp [PyData.canLay0, PyData.canLayAll0] at this
      exact this.2
    show rSortIs K [V.ref p] (upd H1 p (DX.itemsO p a)) Q
    refine ⟨p, a, kvs, es.map (·.2), rfl, upd_same, sm _ _ g1, (dvAll_mono (R1.ex.trans sm) _ _ dv).dp _ _ (canLayAll_of cl), by rw [zp]; exact hz, fun H' as l sH lak nd at_ hl => ?_⟩
    rw [zp]
    have inv : ∀ b, b ∈ as → upd H1 p (DX.itemsO p a) b = none ∧ ∃ ws, H' b = some (.tup ws) := fun b hb => by
      obtain ⟨i, hi⟩ := List.mem_iff_getElem?.mp hb
      obtain ⟨z1, kv, _, z2⟩ := at_ i b hi
      exact ⟨z1, _, z2⟩
    have sk : Same Hk1.k (kwith Hk1 H' as) := fun b o e => by
      unfold kwith
      split
      · rename_i hb
        have := R2.ex _ _ e
        rw [(inv b hb).1] at this
        cases this
      · exact e
    have R3 : Rel K B e1 σ ⟨kwith Hk1 H' as, Hk1.P⟩ H' := R2.grow (Hk' := ⟨kwith Hk1 H' as, Hk1.P⟩) sk (fun b o e => by
      have e : kwith Hk1 H' as b = some o := e
      unfold kwith at e
      split at e
      · exact e
      · exact sH _ _ (R2.ex _ _ e)) sH fun b z1 z2 => by
      have z1 : kwith Hk1 H' as b ≠ none := z1
      unfold kwith at z1
      split at z1
      · rename_i hb
        exact (inv b hb).1
      · exact absurd z2 z1
    have da : DvAll K (kwith Hk1 H' as) (as.map V.ref) (es.map fun p => PyData.tuple [p.1, p.2]) := by
      have : ∀ (i : Nat) (v : V) (d : PyData), (as.map V.ref)[i]? = some v → (es.map fun p => PyData.tuple [p.1, p.2])[i]? = some d → Dv K (kwith Hk1 H' as) v d := fun i v d x1 x2 => by
        rw [List.getElem?_map] at x1 x2
        obtain ⟨b, y1, rfl⟩ := Option.map_eq_some_iff.mp x1
        obtain ⟨e0, y2, rfl⟩ := Option.map_eq_some_iff.mp x2
        obtain ⟨z1, kv, z2, z3⟩ := at_ i b y1
        obtain ⟨k', v', w1, w2, w3⟩ := dvKv_at g2 i e0 y2
        rw [z2] at w1
        cases w1
        rw [w2]
        refine .tup (SqT.of ?_) (.cons (key_dv k') (.cons (dv_mono sk _ _ w3) .nil))
        unfold kwith
        rw [if_pos (List.mem_of_getElem? y1)]
        exact z3
      have hlen : (as.map V.ref).length = (es.map fun p => PyData.tuple [p.1, p.2]).length := by
        rw [List.length_map, List.length_map, lak, dvKv_len g2]
      generalize as.map V.ref = xs at this hlen
      generalize (es.map fun p => PyData.tuple [p.1, p.2]) = ys at this hlen
      clear hz zp
      induction xs generalizing ys with
      | nil =>
        cases ys with
        | nil => exact .nil
        | cons _ _ => simp at hlen
      | cons x xs ih =>
        cases ys with
        | nil => simp at hlen
        | cons y ys => exact .cons (this 0 x y rfl rfl) (ih ys (fun i v d z1 z2 => this (i + 1) v d (by simpa using z1) (by simpa using z2)) (by simpa using hlen))
    obtain ⟨Hk4, R4, s4, o4⟩ := R3.out (r := .new (.lst (sortD (es.map fun p => .tuple [p.1, p.2])))) ⟨l, _, rfl, hl, rfl, sort_dv da⟩
    exact k _ Hk4 _ R4 ((s1.trans (c := ⟨kwith Hk1 H' as, Hk1.P⟩) ⟨sk, fun _ _ z => z⟩).trans s4) o4
  · cases hm
theorem ve_sortIs {e : Expr} {m : ME} {p apos cpos pos : Pos} (hmg : X.mg "sorted" = none) (hr : X.A.units + 64 < cLine) (h : VE X e m) (hc : X.calm = true := by rfl) (hg : Gl X "sorted" := by rfl) (hb : attributeBase e "items" X.env (eval e X.env) = eval e X.env := by rfl) (hl : (apos.endLine == cpos.line) = true := by rfl)
    (hs : starEach [.Call (.Attribute e "items" apos) [] [] cpos] X.env = (false, eval (.Call (.Attribute e "items" apos) [] [] cpos) X.env) :: starEach [] X.env := by rfl) (hbt : bootBuiltins "sorted" = some (.builtin "sorted") := by decide +kernel) :
    VE X (.Call (.Name "sorted" p) [.Call (.Attribute e "items" apos) [] [] cpos] [] pos) (mSortIs m) :=
  (pe_callB (cr_sortIs hc hr) hg hmg hbt (pa_cons (pe_bm0 PySem.F.plainAttrs_dict PySem.F.slot_dict_items PySem.F.type_dict_items mt_itemsK h hb hl) pa_nil hs) (by decide) (by decide) hs rfl).imp fun _ _ _ => sortIs_run
end
theorem readsAll_len0 {h : Heap} : ∀ {vs : List Value} {ds : List PyData} {as : List Addr}, ReadsAll h vs ds as → vs.length = ds.length
  | _, _, _, .nil => rfl
  | _, _, _, .cons _ h2 => by
    have := readsAll_len0 h2
    simp [this]
theorem inCall_push {s0 s : Shared} {L : Addr} {m : Str → Option Value} (x : InCall s0 L m s) (o : Obj) : InCall s0 L m { s with heap := s.heap.push o } := by
  obtain ⟨h, tk, rfl⟩ := x.same
  exact ⟨⟨_, tk, rfl⟩, x.ns.push o, fun b o' e => Heap.get?_push_of_some _ (x.keep b o' e), x.fresh⟩
section
variable {X : Cx} {K : PySem.W.Frag} {B : Fb} {env : Sl} {σ : St} {Hk H : Hp}
def keysBy (kf : PyData → Option PyData) : List PyData → Option (List PyData)
  | [] => some []
  | d :: ds => (kf d).bind fun k => (keysBy kf ds).map (k :: ·)
theorem keysBy_len {kf : PyData → Option PyData} : ∀ {ds ks : List PyData}, keysBy kf ds = some ks → ks.length = ds.length
  | [], ks, h => by cases h; rfl
  | d :: ds, ks, h => by
    obtain ⟨k, h1, h⟩ := Option.bind_eq_some_iff.mp h
    obtain ⟨ks', h2, rfl⟩ := Option.map_eq_some_iff.mp h
    simp [keysBy_len h2]
theorem keysBy_mem {kf : PyData → Option PyData} : ∀ {ds ks : List PyData}, keysBy kf ds = some ks → ∀ p ∈ ds.zip ks, kf p.1 = some p.2
  | [], ks, h, p, hp => by simp at hp
  | d :: ds, ks, h, p, hp => by
    obtain ⟨k, h1, h⟩ := Option.bind_eq_some_iff.mp h
    obtain ⟨ks', h2, rfl⟩ := Option.map_eq_some_iff.mp h
    rw [List.zip_cons_cons, List.mem_cons] at hp
    rcases hp with rfl | hp
    · exact h1
    · exact keysBy_mem h2 p hp
theorem each3 : ∀ {xs : List V} {us : List Value} {ys : List (PyData × PyData)}, Paired RelV xs us → xs.length = ys.length → PySem.W.EachIs (fun (u : Value) (b : V × PyData × PyData) => RelV b.1 u) us (xs.zip ys)
  | _, _, [], .nil, _ => .nil
  | _, _, d :: ds, .cons h1 h2, hl => by
    rw [List.zip_cons_cons]
    exact .cons h1 (each3 h2 (by simpa using hl))
theorem vals3 : ∀ {us : List Value} {bs : List (V × PyData × PyData)}, PySem.W.EachIs (fun (u : Value) (b : V × PyData × PyData) => RelV b.1 u) us bs → Vals (bs.map (·.1)) us
  | _, _, .nil => .nil
  | _, _, .cons h1 h2 => .cons h1 (vals3 h2)
theorem zip3_mem : ∀ {xs : List V} {ds ks : List PyData}, DvAll K H xs ds → ds.length = ks.length → ∀ b ∈ xs.zip (ds.zip ks), Dv K H b.1 b.2.1 ∧ b.2 ∈ ds.zip ks ∧ b.2.1 ∈ ds
  | _, _, [], .nil, _, b, hb => by simp at hb
  | _, _, k :: ks, .cons h1 h2, hl, b, hb => by
    rw [List.zip_cons_cons, List.zip_cons_cons, List.mem_cons] at hb
    rcases hb with rfl | hb
    · exact ⟨h1, by rw [List.zip_cons_cons]; exact List.mem_cons_self, List.mem_cons_self⟩
    · obtain ⟨q1, q2, q3⟩ := zip3_mem h2 (by simpa using hl) b hb
      exact ⟨q1, by rw [List.zip_cons_cons]; exact List.mem_cons_of_mem _ q2, List.mem_cons_of_mem _ q3⟩
end
section
variable {α β : Type}
abbrev eP (ek : α → PyData) (ev : β → PyData) : α × β → PyData × PyData := fun p => (ek p.1, ev p.2)
abbrev eM (ek : α → PyData) (ev : β → PyData) : List (α × β) → PyData := fun l => .dict (l.map (eP ek ev))
def look [DecidableEq α] (l : List (α × β)) (k : α) : Option β := (l.find? fun p => decide (p.1 = k)).map (·.2)
def putL [DecidableEq α] (l : List (α × β)) (k : α) (v : β) : List (α × β) := if (l.any fun p => decide (p.1 = k)) = true then l.map (fun p => if p.1 = k then (p.1, v) else p) else l ++ [(k, v)]
def mergeL [DecidableEq α] (l more : List (α × β)) : List (α × β) := more.foldl (fun acc p => putL acc p.1 p.2) l
theorem keyE_str : KeyE eS Sum.inr := ⟨fun _ => rfl, fun _ _ h => Sum.inr.inj h, fun _ => rfl⟩
variable [DecidableEq α] {ek : α → PyData} {ev : β → PyData} {kk : α → Key}
theorem key_dec (E : KeyE ek kk) (a b : α) : decide (keyOf (ek a) = some (kk b)) = decide (a = b) := by
  rw [E.key]
  by_cases h : a = b
  · simp [h]
  · have : ¬ kk a = kk b := fun z => h (E.inj _ _ z)
    simp [h, this]
theorem key_iff (E : KeyE ek kk) (a b : α) : (keyOf (ek a) = some (kk b)) = (a = b) := by
  rw [E.key]
  exact propext ⟨fun z => E.inj _ _ (Option.some.inj z), fun z => by rw [z]⟩
theorem dGet_map (E : KeyE ek kk) (k : α) : ∀ l : List (α × β), dGet (l.map (eP ek ev)) (kk k) = (look l k).map ev
  | [] => rfl
  | p :: l => by
    have ih := dGet_map E k l
    unfold dGet look at ih ⊢
    rw [List.map_cons, List.find?_cons, List.find?_cons, key_dec E p.1 k]
    by_cases h : p.1 = k
    · simp [h]
    · simp only [h, decide_false]
      exact ih
theorem dPut_map (E : KeyE ek kk) (k : α) (v : β) (l : List (α × β)) : dPut (l.map (eP ek ev)) (kk k) (ev v) = (putL l k v).map (eP ek ev) := by
  unfold dPut putL
  have h1 : ((l.map (eP ek ev)).any fun p => decide (keyOf p.1 = some (kk k))) = l.any fun p => decide (p.1 = k) := by
    rw [List.any_map]
    congr 1
    funext p
    exact key_dec E p.1 k
  rw [h1]
  split
  · rw [List.map_map, List.map_map]
    congr 1
    funext p
    simp only [Function.comp, key_iff E]
    split <;> rfl
  · rw [List.map_append, E.kd]
    rfl
theorem dMerge_map (E : KeyE ek kk) : ∀ (more l : List (α × β)), dMerge (l.map (eP ek ev)) (more.map (eP ek ev)) = some ((mergeL l more).map (eP ek ev))
  | [], l => rfl
  | p :: more, l => by
    show (keyOf (ek p.1)).bind _ = _
    rw [E.key, Option.bind_some]
    show dMerge (dPut (l.map (eP ek ev)) (kk p.1) (ev p.2)) (more.map (eP ek ev)) = _
    rw [dPut_map E, dMerge_map E more]
    rfl
theorem x_dget (E : KeyE ek kk) {l : List (α × β)} {k : α} : gDGet (.dict (l.map (eP ek ev))) (ek k) = (look l k).map (fun z => .dat (ev z)) := by
  simp only [gDGet, E.key, Option.bind_some, dGet_map E]
  cases look l k <;> rfl
theorem x_din0 (E : KeyE ek kk) {l : List (α × β)} {k : α} : gDIn false (ek k) (.dict (l.map (eP ek ev))) = some (.dat (.bool (look l k).isSome)) := by
  simp only [gDIn, E.key, Option.map_some, dGet_map E, Option.isSome_map, Bool.false_xor]
theorem x_din1 (E : KeyE ek kk) {l : List (α × β)} {k : α} : gDIn true (ek k) (.dict (l.map (eP ek ev))) = some (.dat (.bool (!(look l k).isSome))) := by
  simp only [gDIn, E.key, Option.map_some, dGet_map E, Option.isSome_map, Bool.true_xor]
end
section
variable {β γ δ : Type} {env e e1 e2 : Sl} {R : Option β} {i : Nat} {m mo mk mx : ME}
section
variable {K : Res → Sl → Option β}
def dget2K (r1 r2 : Res) (r3 : Res) (e : Sl) (K : Res → Sl → Option β) : Option β := match r3 with
  | .dat dx => (rdv e (stab r1)).bind fun d => (rdv e (stab r2)).bind fun k => match d with
    | .dict es => (keyOf k).bind fun k => K (.dat ((dGet es k).getD dx)) e
    | _ => none
  | _ => none
theorem c_dget2 (k : bnd (mo env) (fun r1 e1 => (rdv e1 (stab r1)).bind fun d0 => match d0 with
    | .dict _ => bnd (mk e1) fun r2 e2 => bnd (mFrz mx e2) fun r3 e3 => dget2K r1 r2 r3 e3 K
    | _ => none) = R) : bnd (mDGet2 mo mk mx env) K = R := by
  rw [← k]; unfold mDGet2 bnd
  cases mo env with
  | none => rfl
  | some p =>
    simp only [Option.bind_some]
    cases rdv p.2 (stab p.1) with
    | none => rfl
    | some d0 =>
      simp only [Option.bind_some]
      cases d0 with
      | dict _ =>
        simp only
        cases mk p.2 with
        | none => rfl
        | some q =>
          simp only [Option.bind_some]
          cases mFrz mx q.2 with
          | none => rfl
          | some t =>
            simp only [Option.bind_some, dget2K]
            cases t with
            | mk r3 e3 =>
              cases r3 with
              | dat dx =>
                simp only
                cases rdv e3 (stab p.1) with
                | none => rfl
                | some d =>
                  simp only [Option.bind_some]
                  cases rdv e3 (stab q.1) with
                  | none => rfl
                  | some kd =>
                    simp only [Option.bind_some]
                    cases d with
                    | dict es => simp only; cases keyOf kd <;> rfl
                    | _ => rfl
              | _ => rfl
      | _ => rfl
theorem c_dget2A {r1 : Res} {es : List (PyData × PyData)} (h : rdv e (stab r1) = some (.dict es)) (k : bnd (mk e) (fun r2 e2 => bnd (mFrz mx e2) fun r3 e3 => dget2K r1 r2 r3 e3 K) = R) : ((rdv e (stab r1)).bind fun d0 => match d0 with
    | .dict _ => bnd (mk e) fun r2 e2 => bnd (mFrz mx e2) fun r3 e3 => dget2K r1 r2 r3 e3 K
    | _ => none) = R := by rw [h]; exact k
theorem c_dget2K {r1 r2 : Res} {es : List (PyData × PyData)} {dk dx : PyData} (h1 : rdv e (stab r1) = some (.dict es)) (h2 : rdv e (stab r2) = some dk) (k : ((keyOf dk).map fun k => (dGet es k).getD dx).bind (fun d => K (.dat d) e) = R) : dget2K r1 r2 (.dat dx) e K = R := by
  unfold dget2K; simp only; rw [h1, h2, ← k]
  simp only [Option.bind_some]
  cases keyOf dk <;> rfl
end
theorem x_get2 {α τ : Type} [DecidableEq α] {ek : α → PyData} {ev : τ → PyData} {kk : α → Key} (E : KeyE ek kk) {l : List (α × τ)} {k : α} {x : τ} : ((keyOf (ek k)).map fun k => (dGet (l.map (eP ek ev)) k).getD (ev x)) = some (ev ((look l k).getD x)) := by
  rw [E.key]; simp only [Option.map_some, dGet_map E]
  cases look l k <;> rfl
section
variable {K : Res → Sl → Option β} {l : List (ME × ME)}
def bndP (x : Option (List (PyData × PyData) × Sl)) (K : List (PyData × PyData) → Sl → Option β) : Option β := x.bind fun p => K p.1 p.2
def dispK (es : List (PyData × PyData)) (e : Sl) (K : Res → Sl → Option β) : Option β := if keysOk es = true ∧ es.length ≤ 15 then (dMerge [] es).bind fun es => K (.new (.dct es)) e else none
theorem c_disp (k : bndP (mPairs l env) (fun es e => dispK es e K) = R) : bnd (mDisp l env) K = R := by
  rw [← k]; unfold mDisp bnd bndP dispK
  cases mPairs l env with
  | none => rfl
  | some p =>
    simp only [Option.bind_some]
    split
    · cases dMerge [] p.1 <;> rfl
    · rfl
theorem c_pnil {K : List (PyData × PyData) → Sl → Option β} (k : K [] env = R) : bndP (mPairs [] env) K = R := k
def pairK (r1 r2 : Res) (l : List (ME × ME)) (e : Sl) (K : List (PyData × PyData) → Sl → Option β) : Option β := match r1, r2 with
  | .dat k, .dat d => bndP (mPairs l e) fun es e => K ((k, d) :: es) e
  | _, _ => none
theorem c_pcons {K : List (PyData × PyData) → Sl → Option β} {mk mv : ME} (k : bnd (mFrz mk env) (fun r1 e1 => bnd (mFrz mv e1) fun r2 e2 => pairK r1 r2 l e2 K) = R) : bndP (mPairs ((mk, mv) :: l) env) K = R := by
  rw [← k]; unfold bndP bnd
  simp only [mPairs]
  cases mFrz mk env with
  | none => rfl
  | some p =>
    simp only [Option.bind_some]
    cases mFrz mv p.2 with
    | none => rfl
    | some q =>
      simp only [Option.bind_some]
      cases p with
      | mk r1 e1 =>
        cases q with
        | mk r2 e2 =>
          cases r1 with
          | dat kd =>
            cases r2 with
            | dat d =>
              simp only [pairK, bndP]
              cases mPairs l e2 <;> rfl
            | _ => rfl
          | _ => cases r2 <;> rfl
theorem c_pconsK {K : List (PyData × PyData) → Sl → Option β} {kd d : PyData} (k : bndP (mPairs l e) (fun es e => K ((kd, d) :: es) e) = R) : pairK (.dat kd) (.dat d) l e K = R := k
theorem c_dispK {α τ : Type} [DecidableEq α] {ek : α → PyData} {ev : τ → PyData} {kk : α → Key} (E : KeyE ek kk) (ps : List (α × τ)) {es : List (PyData × PyData)} (h : es = ps.map (eP ek ev)) (h15 : ps.length ≤ 15) (k : K (.new (.dct ((mergeL [] ps).map (eP ek ev)))) e = R) : dispK es e K = R := by
  subst h
  unfold dispK
  have h1 : keysOk (ps.map (eP ek ev)) = true := by
    unfold keysOk
    rw [List.all_map, List.all_eq_true]
    intro p _
    simp [E.key]
  rw [if_pos ⟨h1, by rw [List.length_map]; exact h15⟩]
  have := dMerge_map (ev := ev) E ps []
  rw [List.map_nil] at this
  rw [this]
  exact k
theorem c_dnew (k : K (.new (.dct [])) env = R) : bnd (mDNew env) K = R := k
end
section
variable {K : Sl → Option β} {d : PyData}
def gputK (i : Nat) (d : PyData) (r : Res) (e : Sl) (K : Sl → Option β) : Option β := match r with
  | .dat dk => (keyOf dk).bind fun k => (dctAt e i).bind fun q => if q.2.length < 100000 then K (e.set i (q.1.put (.dct (dPut q.2 k d)))) else none
  | _ => none
theorem c_gput {q : Slot × List (PyData × PyData)} (h : dctAt e i = some q) (k : bnd (m e) (fun r e => gputK i d r e K) = R) : (mgPut i m d e).bind K = R := by
  rw [← k]; unfold mgPut bnd
  rw [h]
  simp only [Option.bind_some]
  cases m e with
  | none => rfl
  | some p =>
    simp only [Option.bind_some]
    cases p with
    | mk r e =>
      cases r with
      | dat dk =>
        simp only [gputK]
        cases keyOf dk with
        | none => rfl
        | some kk =>
          simp only [Option.bind_some]
          cases dctAt e i with
          | none => rfl
          | some q =>
            simp only [Option.bind_some]
            split <;> rfl
      | _ => rfl
def pPut {α τ : Type} [DecidableEq α] (l : List (α × τ)) (k : α) (v : τ) : Option (List (α × τ)) := if l.length < 100000 then some (putL l k v) else none
theorem c_gputP {α τ : Type} [DecidableEq α] {ek : α → PyData} {ev : τ → PyData} {kk : α → Key} {k : List (α × τ) → Option γ} {h : γ → Option β} (E : KeyE ek kk) (l : List (α × τ)) (x : α) (v : τ) {s : Slot} (Ev : List (α × τ) → Sl) (h1 : dctAt e i = some (s, l.map (eP ek ev))) (hE : ∀ l', e.set i (s.put (.dct (l'.map (eP ek ev)))) = Ev l') (p : ∀ l', K (Ev l') = (k l').bind h) : gputK i (ev v) (.dat (ek x)) e K = ((pPut l x v).bind k).bind h := by
  unfold gputK pPut
  simp only [E.key, h1, Option.bind_some, List.length_map]
  split
  · rw [dPut_map E, hE]
    exact p _
  · rfl
end
section
variable {K : Fl → Sl → Option β} {j : Nat}
theorem c_setNLD {α τ : Type} {k : List (α × τ) → Option γ} {h : γ → Option β} (ek : α → PyData) (ev : τ → PyData) (v : List (α × τ)) (Ev : List (α × τ) → Sl) (hs : ∀ x, e.set i (.own (.dct (x.map (eP ek ev)))) = Ev x) (p : ∀ x, K .nx (Ev x) = (k x).bind h) : setK i (.new (.dct (v.map (eP ek ev)))) e K = ((some v).bind k).bind h := by
  show K .nx (e.set i (.own (.dct (v.map (eP ek ev))))) = _
  rw [hs]; exact p v
end
section
variable {K : List PyData → Sl → Option β}
def lkK (f : List (PyData × PyData) → List PyData) (r : Res) (e : Sl) (K : List PyData → Sl → Option β) : Option β := (lk (r, e)).bind fun q => K (f q.1) q.2
theorem c_itK (k : bnd (m env) (fun r e => lkK (fun es => es.map (·.1)) r e K) = R) : bnd (mItK m env) K = R := by
  rw [← k]; unfold mItK bnd lkK
  cases m env with
  | none => rfl
  | some p => simp only [Option.bind_some]; cases lk p <;> rfl
theorem c_itI (k : bnd (m env) (fun r e => lkK (fun es => es.map fun p => .tuple [p.1, p.2]) r e K) = R) : bnd (mItI m env) K = R := by
  rw [← k]; unfold mItI bnd lkK
  cases m env with
  | none => rfl
  | some p => simp only [Option.bind_some]; cases lk p <;> rfl
theorem c_lkO {f : List (PyData × PyData) → List PyData} {es : List (PyData × PyData)} {l : List PyData} (h : e[i]? = some (.own (.dct es))) (hs : e.set i (.val (.dict es)) = e2) (hl : f es = l) (k : K l e2 = R) : lkK f (.slt i) e K = R := by
  subst hs hl; unfold lkK lk; simp only [h]; exact k
end
theorem mapK {α τ : Type} {ek : α → PyData} {ev : τ → PyData} {l : List (α × τ)} : (l.map (eP ek ev)).map (·.1) = (l.map (·.1)).map ek := by simp
theorem mapI {α τ : Type} {ek : α → PyData} {ev : τ → PyData} {l : List (α × τ)} : (l.map (eP ek ev)).map (fun p => PyData.tuple [p.1, p.2]) = l.map (eT2 ek ev) := by simp [Function.comp_def]
section
variable {α τ : Type}
def pSort (e : α → PyData) (l : List α) : Option (List α) := if sortB (l.map e) = true then some (l.mergeSort (PySem.W.dataLe false e)) else none
theorem sortD_map (e : α → PyData) (l : List α) : sortD (l.map e) = (l.mergeSort (PySem.W.dataLe false e)).map e := by
  unfold sortD
  exact (List.map_mergeSort (r := PySem.W.dataLe false e) (s := PySem.W.dataLe false id) (f := e) (l := l) (fun a _ b _ => rfl)).symm
theorem x_sortX {e : α → PyData} {l : List α} : gSortX [.list (l.map e)] = (pSort e l).map (fun z => .new (.lst (z.map e))) := by
  show (if sortB (l.map e) = true then some (Res.new (.lst (sortD (l.map e)))) else none) = _
  unfold pSort
  split
  · rw [sortD_map]
    rfl
  · rfl
end
section
variable {K : Res → Sl → Option β}
def sIK (f : List (PyData × PyData) → List PyData) (r : Res) (e : Sl) (K : Res → Sl → Option β) : Option β := (dctOf (r, e)).bind fun es => (if sortB (f es) = true then some (Res.new (.lst (sortD (f es)))) else none).bind fun r => K r e
theorem c_sortIs (k : bnd (m env) (fun r e => sIK (fun es => es.map fun p => .tuple [p.1, p.2]) r e K) = R) : bnd (mSortIs m env) K = R := by
  rw [← k]; unfold mSortIs bnd sIK
  cases m env with
  | none => rfl
  | some p =>
    simp only [Option.bind_some]
    cases dctOf p with
    | none => rfl
    | some es => simp only [Option.bind_some]; split <;> rfl
theorem c_sIK {α : Type} {f : List (PyData × PyData) → List PyData} {r : Res} {es : List (PyData × PyData)} {ec : α → PyData} (l : List α) {k : List α → Option γ} {h : γ → Option β} (h1 : dctOf (r, e) = some es) (hl : f es = l.map ec) (p : ∀ z : List α, K (.new (.lst (z.map ec))) e = (k z).bind h) : sIK f r e K = ((pSort ec l).bind k).bind h := by
  unfold sIK pSort
  rw [h1]
  simp only [Option.bind_some, hl]
  split
  · rw [sortD_map]
    exact p _
  · rfl
end
end
theorem prsD_map {α τ : Type} {ek : α → PyData} {ev : τ → PyData} : ∀ l : List (α × τ), prsD (l.map (eT2 ek ev)) = some (l.map (eP ek ev))
  | [] => rfl
  | p :: l => by
    show (prsD (l.map (eT2 ek ev))).map _ = _
    rw [prsD_map l]
    rfl
theorem x_dict {α τ : Type} [DecidableEq α] {ek : α → PyData} {ev : τ → PyData} {kk : α → Key} (E : KeyE ek kk) {l : List (α × τ)} : gDict [.list (l.map (eT2 ek ev))] = some (.new (.dct ((mergeL [] l).map (eP ek ev)))) := by
  have h1 : keysOk (l.map (eP ek ev)) = true := by
    unfold keysOk
    rw [List.all_map, List.all_eq_true]
    intro p _
    simp [E.key]
  have := dMerge_map (ev := ev) E l []
  rw [List.map_nil] at this
  simp only [gDict, prsD_map, Option.bind_some, h1, if_true, this, Option.map_some]
section
variable {X : Cx} {K : PySem.W.Frag} {H Hk : Hp}
theorem sort_alike {ds : List PyData} (h : sortB ds = true) : PySem.W.AlikeAll ds := by
  obtain ⟨b1, b2, _⟩ := sort_of h
  refine ⟨b1, fun x hx e => ?_⟩
  subst e
  rcases b2 with b2 | b2
  · obtain ⟨_, _, e⟩ := b2 _ hx
    cases e
  · have := b2 _ hx
    simp at this
theorem depthAll_le {k : Nat} : ∀ {ds : List PyData}, (∀ d ∈ ds, d.depth ≤ k) → PyData.depthAll ds ≤ k
  | [], _ => by simp [PyData.depthAll]
  | d :: ds, h => by
    have h1 := h d List.mem_cons_self
    have h2 := depthAll_le (ds := ds) fun x hx => h x (List.mem_cons_of_mem _ hx)
    simp only [PyData.depthAll]
    omega
end
section
variable {X : Cx} {K : PySem.W.Frag}
def ltS (a b : Str) : Bool := decide (a.cps.toList < b.cps.toList)
end
end Cm
namespace Cm
open PySem PySem.Spec PyProof.Rows L2
section
variable {P : Program} {w : World} {K : PySem.W.Frag} {mg : Str → Option Value} {base : Heap}
theorem FnG.up {j k : Nat} {f : Addr} {fd : FuncData} {ps : List Str} {sp : Sp} (F : FnG P w K mg base j f fd ps sp) (h : j ≤ k) : FnG P w K mg base k f fd ps sp :=
  ⟨F.count, fun A fs s H args ys xs Q E g r => F.goes A fs s H args ys xs Q E g (r.mono h)⟩
end
def Sc.off : Sc → Addr → Prop
  | .lst a, b => b ≠ a
  | .tup a, b => b ≠ a
  | .txt _, _ => True
def ZipTn (N : Nat) (c d : Sc) (xs ys : List V) (i : Nat) (h : Heap) : Prop :=
  i ≤ min xs.length ys.length ∧ IsZip h (N + 4) (N + 2) (N + 3) .none ∧ IsTupOf2 h (N + 2) (.ref N) (.ref (N + 1)) ∧ (∃ x y, IsTupOf2 h (N + 3) x y) ∧ c.it h N i ∧ d.it h (N + 1) i
theorem ZipTn.lt {N : Nat} {c d : Sc} {xs ys : List V} {i : Nat} {h : Heap} (st : ZipTn N c d xs ys i h) : N + 4 < h.objs.size := Heap.lt_size st.2.1
end Cm
namespace Cm
open PySem L2
def stoPut (env : Sl) (M : List MC) : Sl := env.set (env.length - 1) (.sto M)
section
variable {X : Cx} {K : PySem.W.Frag} {B : Fb} {env env' : Sl} {σ : L2.St} {Hk Hk' : Kn} {H H' : Hp} {M : List MC}
theorem HasSto.lt (h : HasSto env M) : env.length - 1 < env.length := (List.getElem?_eq_some_iff.mp h).1
theorem HasSto.put (h : HasSto env M) (M' : List MC) : HasSto (stoPut env M') M' := by
  unfold HasSto stoPut
  rw [List.length_set, List.getElem?_set_self h.lt]
theorem hasSto_of {n : Nat} {c : MC} (h : (sto env)[n]? = some c) : HasSto env (sto env) := by
  unfold Cm.sto HasSto at *
  split at h
  · assumption
  · simp at h
theorem HasSto.uniq {M' : List MC} (h : HasSto env M) (g : HasSto env M') : M = M' := by
  unfold HasSto at *
  rw [h] at g
  exact Slot.sto.inj (Option.some.inj g)
theorem Rel.stoChange (R : Rel K B env σ Hk H) (hS : HasSto env M) {n : Nat} {c c' : MC} {a : Addr} {o' : HO} (hc : M[n]? = some c) (hl : c.live) (hl' : c'.live) (ha : Hk.P n = some a) (h3 : CellM K Hk (upd H a o') a c') :
    Rel K B (stoPut env (M.set n c')) σ Hk (upd H a o') := by
  have S := R.sok M hS
  obtain ⟨a', g1, g2, g3⟩ := S.cel n c hc
  rw [ha] at g1
  cases g1
  have hk := g3 hl
  obtain ⟨u, hu, hx⟩ := g2.there hl
  have h0 : B.H0 a = none ∨ B.io a := (R.pin n a ha).2 hk
  have R1 : Rel K B (env.set (env.length - 1) .no) σ Hk (upd H a o') := by
    have R0 : Rel K B (env.set (env.length - 1) .no) σ Hk H := R.less (fun z => z) (fun M z => by cases z) fun _ _ => trivial
    refine ⟨?_, R0.kn, R0.fr, ?_, ?_, R0.o0, R0.len, ?_, R0.sep, fun M1 h => ?_, fun m b h => ⟨?_, (R0.pin m b h).2⟩, R0.psep⟩
    · intro b x e
      have hb : b ≠ a := fun z => by rw [z, hk] at e; cases e
      rw [upd_ne hb]
      exact R.ex _ _ e
    · intro b x e hO
      have hb : b ≠ a := fun z => by
        subst z
        rcases h0 with z | z
        · rw [z] at e; cases e
        · exact hO z
      rw [upd_ne hb]
      exact R.kp b x e hO
    · intro b hb
      refine ⟨?_, (R.oin b hb).2⟩
      by_cases e : b = a
      · rw [e, upd_same]
        exact fun z => nomatch z
      · rw [upd_ne e]
        exact (R.oin b hb).1
    · intro j t hj
      obtain ⟨o, q1, q2⟩ := R0.slot j t hj
      refine ⟨o, q1, ?_⟩
      cases t with
      | own c =>
        obtain ⟨b, e1, z1, z2, z3⟩ := q2
        subst e1
        have ne : b ≠ a := fun e => R0.psep j _ b n hj trivial q1 (by rw [e]; exact ha)
        exact ⟨b, rfl, z1, z2, z3.mono (Same.refl _) fun o z => by rw [upd_ne ne]; exact z⟩
      | io k c =>
        obtain ⟨b, e1, z1, z2, z3⟩ := q2
        subst e1
        have ne : b ≠ a := fun e => R0.psep j _ b n hj trivial q1 (by rw [e]; exact ha)
        exact ⟨b, rfl, z1, z2, z3.mono (Same.refl _) fun o z => by rw [upd_ne ne]; exact z⟩
      | _ => exact q2
    · have := hasSto_set (M := M1) h fun M z => by cases z
      unfold HasSto at h
      rw [List.length_set, List.getElem?_set_self hS.lt] at h
      cases h
    · by_cases e : b = a
      · rw [e, upd_same]
        exact fun z => nomatch z
      · rw [upd_ne e]
        exact (R.pin m b h).1
  have hS1 : (env.set (env.length - 1) .no).length = env.length := List.length_set
  have R2 : Rel K B ((env.set (env.length - 1) .no).set (env.length - 1) (.sto (M.set n c'))) σ Hk (upd H a o') := by
    refine ⟨R1.ex, R1.kn, R1.fr, R1.kp, R1.oin, R1.o0, by rw [List.length_set]; exact R1.len, fun j t hj => ?_, fun j k s t b hj hk' ms mt q1 q2 => ?_, fun M1 h => ?_, R1.pin, fun j s b m hj ms q => ?_⟩
    · rcases set_get hj with ⟨rfl, rfl⟩ | ⟨hne, hj'⟩
      · obtain ⟨o, h1, _⟩ := R.slot _ _ hS
        exact ⟨o, h1, trivial⟩
      · exact R1.slot j t hj'
    · rcases set_get hj with ⟨rfl, rfl⟩ | ⟨_, hj⟩
      · cases ms
      · rcases set_get hk' with ⟨rfl, rfl⟩ | ⟨_, hk'⟩
        · cases mt
        · exact R1.sep j k s t b hj hk' ms mt q1 q2
    · have hM : M1 = M.set n c' := by
        unfold HasSto at h
        rw [List.length_set, hS1, List.getElem?_set_self (by rw [hS1]; exact hS.lt)] at h
        exact (Slot.sto.inj (Option.some.inj h)).symm
      subst hM
      refine ⟨fun m c1 h1 => ?_, S.inj, fun m h1 => S.top m (by rw [List.length_set] at h1; exact h1)⟩
      rcases set_get h1 with ⟨rfl, rfl⟩ | ⟨ne, h1⟩
      · exact ⟨a, ha, h3, fun _ => hk⟩
      · obtain ⟨b, w1, w2, w3⟩ := S.cel m c1 h1
        have nb : b ≠ a := fun e => ne (S.inj m n a (e ▸ w1) ha)
        refine ⟨b, w1, w2.mono (.refl _) (fun o z => by rw [upd_ne nb]; exact z) (fun dx z => ?_), w3⟩
        have nd : dx ≠ a := fun e => by
          rw [e, hu] at z
          exact hx b (Option.some.inj z)
        rw [upd_ne nd]
        exact z
    · rcases set_get hj with ⟨rfl, rfl⟩ | ⟨_, hj⟩
      · cases ms
      · exact R1.psep j s b m hj ms q
  rw [List.set_set] at R2
  exact R2
def Kn.pinned (Hk : Kn) (n : Nat) (a : Addr) : Kn := ⟨Hk.k, fun m => if m = n then some a else Hk.P m⟩
theorem Kn.pinned_same {n : Nat} {a : Addr} (h : Hk.P n = none) : KSame Hk (Hk.pinned n a) := ⟨Same.refl _, fun m x e => by
  show (if m = n then some a else Hk.P m) = some x
  by_cases z : m = n
  · rw [z, h] at e
    cases e
  · rw [if_neg z]
    exact e⟩
theorem Kn.pinned_at {n : Nat} {a : Addr} : (Hk.pinned n a).P n = some a := if_pos rfl
theorem Rel.stoTake (R : Rel K B env σ Hk H) (hS : HasSto env M) {a : Addr} {c : MC} (hk : Hk a = none) (h0 : B.H0 a = none) (hP : ∀ (n : Nat), Hk.P n ≠ some a) (hn : ∀ (j : Nat) s, env[j]? = some s → s.mut → σ[j]? ≠ some (some (V.ref a)))
    (hc : CellM K Hk H a c) (hl : c.live) : Rel K B (stoPut env (M ++ [c])) σ (Hk.pinned M.length a) H ∧ KSame Hk (Hk.pinned M.length a) ∧ PvOk K (Hk.pinned M.length a) (.ref a) (.ref M.length) := by
  have S := R.sok M hS
  have sm : KSame Hk (Hk.pinned M.length a) := Kn.pinned_same (S.top _ (Nat.le_refl _))
  have at_ : ∀ m b, (Hk.pinned M.length a).P m = some b → (m = M.length ∧ b = a) ∨ (m ≠ M.length ∧ Hk.P m = some b) := fun m b h => by
    have h : (if m = M.length then some a else Hk.P m) = some b := h
    by_cases z : m = M.length
    · rw [if_pos z] at h
      exact .inl ⟨z, (Option.some.inj h).symm⟩
    · rw [if_neg z] at h
      exact .inr ⟨z, h⟩
  obtain ⟨u, hu, _⟩ := hc.there hl
  refine ⟨⟨R.ex, R.kn.trans sm, R.fr, R.kp, R.oin, R.o0, ?_, fun j t hj => ?_, fun j k s t b hj hk' ms mt g1 g2 => ?_, fun M1 h => ?_, fun m b h => ?_, fun j s b m hj ms g e => ?_⟩, sm, .ref Kn.pinned_at⟩
  · unfold stoPut
    rw [List.length_set]
    exact R.len
  · rcases set_get hj with ⟨rfl, rfl⟩ | ⟨hne, hj'⟩
    · obtain ⟨o, h1, _⟩ := R.slot _ _ hS
      exact ⟨o, h1, trivial⟩
    · obtain ⟨o, q1, q2⟩ := R.slot j t hj'
      refine ⟨o, q1, ?_⟩
      cases t with
      | pv p =>
        obtain ⟨v, e1, q⟩ := q2
        exact ⟨v, e1, q.mono sm⟩
      | _ => exact q2
  · rcases set_get hj with ⟨rfl, rfl⟩ | ⟨_, hj⟩
    · cases ms
    · rcases set_get hk' with ⟨rfl, rfl⟩ | ⟨_, hk'⟩
      · cases mt
      · exact R.sep j k s t b hj hk' ms mt g1 g2
  · rw [h.uniq (hS.put _)]
    refine ⟨fun m c1 h1 => ?_, fun m k b w1 w2 => ?_, fun m h1 => ?_⟩
    · by_cases hm : m < M.length
      · rw [List.getElem?_append_left hm] at h1
        obtain ⟨b, w1, w2, w3⟩ := S.cel m c1 h1
        exact ⟨b, sm.p _ _ w1, w2.mono sm (fun o z => z) fun dx z => z, w3⟩
      · have hm2 : m = M.length := by
          have := (List.getElem?_eq_some_iff.mp h1).1
          rw [List.length_append, List.length_singleton] at this
          omega
        subst hm2
        rw [List.getElem?_append_right (Nat.le_refl _), Nat.sub_self] at h1
        cases h1
        exact ⟨a, Kn.pinned_at, hc.mono sm (fun o z => z) (fun dx z => z), fun _ => hk⟩
    · rcases at_ m b w1 with ⟨e1, e2⟩ | ⟨e1, e2⟩
      · rcases at_ k b w2 with ⟨e3, e4⟩ | ⟨e3, e4⟩
        · rw [e1, e3]
        · exact absurd (e2 ▸ e4) (hP k)
      · rcases at_ k b w2 with ⟨e3, e4⟩ | ⟨e3, e4⟩
        · exact absurd (e4 ▸ e2) (hP m)
        · exact S.inj m k b e2 e4
    · rw [List.length_append, List.length_singleton] at h1
      show (if m = M.length then some a else Hk.P m) = none
      rw [if_neg (by omega)]
      exact S.top m (by omega)
  · rcases at_ m b h with ⟨e1, e2⟩ | ⟨e1, e2⟩
    · subst e2
      exact ⟨ne_none hu, fun _ => .inl h0⟩
    · exact R.pin m b e2
  · rcases set_get hj with ⟨rfl, rfl⟩ | ⟨_, hj⟩
    · cases ms
    · rcases at_ m b e with ⟨e1, e2⟩ | ⟨e1, e2⟩
      · subst e2
        exact hn j s hj ms g
      · exact R.psep j s b m hj ms g e2
def into : Res × Sl → Option (PV × Sl)
  | (.dat d, e) => some (.dat d, e)
  | (.pv p, e) => some (p, e)
  | (.new c, e) => match e[e.length - 1]? with
    | some (.sto M) => some (.ref M.length, stoPut e (M ++ [c.mc]))
    | _ => none
  | (.slt i, e) => match e[i]?, e[e.length - 1]? with
    | some (.val d), _ => some (.dat d, e)
    | some (.own c), some (.sto M) => some (.ref M.length, (stoPut e (M ++ [c.mc])).set i (.pv (.ref M.length)))
    | _, _ => none
theorem Rel.into {r : Res} {v : V} {p : PV} (R : Rel K B env σ Hk H) (o : ResOk K B env σ Hk H r v) (h : Cm.into (r, env) = some (p, env')) : ∃ Hk' : Kn, Rel K B env' σ Hk' H ∧ KSame Hk Hk' ∧ PvOk K Hk' v p := by
  cases r with
  | dat d =>
    cases h
    exact ⟨Hk, R, .refl _, .dat o⟩
  | pv q =>
    cases h
    exact ⟨Hk, R, .refl _, o⟩
  | new c =>
    unfold Cm.into at h
    cases hS : env[env.length - 1]? with
    | none => simp only [hS] at h; cases h
    | some s =>
      cases s with
      | sto M =>
        simp only [hS] at h
        cases h
        obtain ⟨a, rfl, h1, h2, h3, h5, h4⟩ := o
        obtain ⟨R1, s1, q1⟩ := R.stoTake hS h1 h2 h5 h4 h3.mc.1 h3.mc.2
        exact ⟨_, R1, s1, q1⟩
      | _ => simp only [hS] at h; cases h
  | slt i =>
    unfold Cm.into at h
    have o : σ[i]? = some (some v) := o
    cases hi : env[i]? with
    | none => simp only [hi] at h; cases h
    | some s =>
      obtain ⟨u, g1, g2⟩ := R.slot i s hi
      rw [o] at g1
      cases g1
      cases s with
      | val d =>
        simp only [hi] at h
        cases h
        obtain ⟨v', e1, z⟩ := g2
        cases e1
        exact ⟨Hk, R, .refl _, .dat z⟩
      | own c =>
        cases hS : env[env.length - 1]? with
        | none => simp only [hi, hS] at h; cases h
        | some s =>
          cases s with
          | sto M =>
            simp only [hi, hS] at h
            cases h
            obtain ⟨a, e1, q1, q2, q3⟩ := g2
            cases e1
            have hS' : HasSto env M := hS
            have ni := hS'.ne hi fun M z => by cases z
            have R0 : Rel K B (env.set i .no) σ Hk H := R.less (fun z => z) (fun M z => by cases z) fun o _ => trivial
            have hS0 : HasSto (env.set i .no) M := hS'.set ni
            obtain ⟨R1, s1, p1⟩ := R0.stoTake hS0 q1 q2 (fun n => R.psep i _ a n hi trivial o) (fun j s hj hm e => by
              rcases set_get hj with ⟨rfl, rfl⟩ | ⟨ne, hj⟩
              · cases hm
              · exact ne (R.sep j i s _ a hj hi hm trivial e o)) q3.mc.1 q3.mc.2
            have R2 := R1.less (i := i) (s := .pv (.ref M.length)) (fun z => z) (fun M z => by cases z) fun u hu => by
              rw [o] at hu
              cases hu
              exact ⟨_, rfl, p1⟩
            have eq : (stoPut (env.set i .no) (M ++ [c.mc])).set i (.pv (.ref M.length)) = (stoPut env (M ++ [c.mc])).set i (.pv (.ref M.length)) := by
              unfold stoPut
              rw [List.length_set, List.set_comm _ _ (fun z => ni z), List.set_set]
            rw [eq] at R2
            exact ⟨_, R2, s1, p1⟩
          | _ => simp only [hi, hS] at h; cases h
      | _ => simp only [hi] at h; cases h
def mIn (m : ME) : ME := fun env => (m env).bind fun p => (into p).map fun q => (.pv q.1, q.2)
theorem in_run {m : ME} {Q : VK} (h : tE K (mIn m) σ H Q) : tE K m σ H Q := by
  obtain ⟨B, env, Hk, r, env', R, hm, k⟩ := h
  obtain ⟨⟨r1, e1⟩, h1, hm⟩ := Option.bind_eq_some_iff.mp hm
  obtain ⟨⟨p, e2⟩, h2, hm⟩ := Option.map_eq_some_iff.mp hm
  cases hm
  refine ⟨B, env, Hk, r1, e1, R, h1, fun v Hk1 H1 R1 s1 o1 => ?_⟩
  obtain ⟨Hk', R', s', z⟩ := R1.into o1 h2
  exact k v Hk' H1 R' (s1.trans s') z
theorem ve_in {e : Expr} {m : ME} (h : VE X e m) : VE X e (mIn m) := h.imp fun _ _ _ => in_run
end
theorem _root_.L2.PE.or {X : Cx} {e : Expr} {t1 t2 : TE} (h1 : PE X e t1) (h2 : PE X e t2) : PE X e fun σ H Q => t1 σ H Q ∨ t2 σ H Q := ⟨fun pins s σ H Q I q => q.elim (h1.run pins s σ H Q I) (h2.run pins s σ H Q I)⟩
def pvPut (es : List (PyData × PV)) (k : Key) (d : PV) : List (PyData × PV) :=
  if (es.any fun p => decide (keyOf p.1 = some k)) = true then es.map (fun p => if keyOf p.1 = some k then (p.1, d) else p) else es ++ [(keyD k, d)]
section
variable {X : Cx} {K : PySem.W.Frag} {B : Fb} {env env' : Sl} {σ : L2.St} {Hk Hk' : Kn} {H H' : Hp}
theorem PvAll.get : ∀ {vs : List V} {ps : List PV}, PvAll K Hk vs ps → ∀ (i : Nat) (p : PV), ps[i]? = some p → ∃ v, vs[i]? = some v ∧ PvOk K Hk v p
  | _, _, .nil, i, p, h => by simp at h
  | _, _, .cons h1 h2, 0, p, h => by
    simp at h
    subst h
    exact ⟨_, rfl, h1⟩
  | _, _, .cons h1 h2, i + 1, p, h => by
    obtain ⟨v, e, q⟩ := PvAll.get h2 i p (by simpa using h)
    exact ⟨v, by simpa using e, q⟩
theorem PvAll.append : ∀ {vs ws : List V} {ps qs : List PV}, PvAll K Hk vs ps → PvAll K Hk ws qs → PvAll K Hk (vs ++ ws) (ps ++ qs)
  | _, _, _, _, .nil, h => h
  | _, _, _, _, .cons h1 h2, h => .cons h1 (PvAll.append h2 h)
theorem PvAll.erase : ∀ {vs : List V} {ps : List PV} (i : Nat), PvAll K Hk vs ps → PvAll K Hk (vs.eraseIdx i) (ps.eraseIdx i)
  | _, _, _, .nil => .nil
  | _, _, 0, .cons _ h2 => h2
  | _, _, i + 1, .cons h1 h2 => .cons h1 (PvAll.erase i h2)
theorem pvKv_len : ∀ {kvs : List (Key × V)} {es : List (PyData × PV)}, PvKv K Hk kvs es → kvs.length = es.length
  | _, _, .nil => rfl
  | _, _, .cons _ h => by
    have := pvKv_len h
    simp [this]
theorem pvKv_get (k : Key) : ∀ {kvs : List (Key × V)} {es : List (PyData × PV)}, PvKv K Hk kvs es → (valV kvs k = none ∧ pvGet es k = none) ∨ ∃ v d, valV kvs k = some v ∧ pvGet es k = some d ∧ PvOk K Hk v d
  | _, _, .nil => .inl ⟨rfl, rfl⟩
  | _, _, .cons (k := j) (v := v) (p := d) h1 h2 => by
    by_cases e : j = k
    · subst e
      exact .inr ⟨v, d, valV_pos rfl, by simp [pvGet, keyOf_keyD], h1⟩
    · have e2 : ¬ keyOf (keyD j) = some k := by
        rw [keyOf_keyD]
        exact fun z => e (Option.some.inj z)
      rw [valV_neg (p := (j, v)) e]
      have : ∀ r, pvGet ((keyD j, d) :: r) k = pvGet r k := fun r => by simp [pvGet, e2]
      rw [this]
      exact pvKv_get k h2
theorem pvKv_any (k : Key) : ∀ {kvs : List (Key × V)} {es : List (PyData × PV)}, PvKv K Hk kvs es → (kvs.any fun kv => decide (kv.1 = k)) = (es.any fun p => decide (keyOf p.1 = some k))
  | _, _, .nil => rfl
  | _, _, .cons h1 h2 => by
    rw [List.any_cons, List.any_cons, pvKv_any k h2]
    simp [keyOf_keyD]
theorem pvKv_repl (k : Key) {v : V} {d : PV} (q : PvOk K Hk v d) : ∀ {kvs : List (Key × V)} {es : List (PyData × PV)}, PvKv K Hk kvs es → PvKv K Hk (kvs.map fun kv => if kv.1 = k then (kv.1, v) else kv) (es.map fun p => if keyOf p.1 = some k then (p.1, d) else p)
  | _, _, .nil => .nil
  | _, _, .cons (k := j) h1 h2 => by
    rw [List.map_cons, List.map_cons]
    by_cases e : j = k
    · rw [if_pos e, if_pos (by rw [keyOf_keyD, e])]
      exact .cons q (pvKv_repl k q h2)
    · rw [if_neg e, if_neg (by rw [keyOf_keyD]; exact fun z => e (Option.some.inj z))]
      exact .cons h1 (pvKv_repl k q h2)
theorem pvKv_app : ∀ {kvs kvs' : List (Key × V)} {es es' : List (PyData × PV)}, PvKv K Hk kvs es → PvKv K Hk kvs' es' → PvKv K Hk (kvs ++ kvs') (es ++ es')
  | _, _, _, _, .nil, h => h
  | _, _, _, _, .cons h1 h2, h => .cons h1 (pvKv_app h2 h)
theorem pvKv_put (k : Key) {v : V} {d : PV} (q : PvOk K Hk v d) {kvs : List (Key × V)} {es : List (PyData × PV)} (h : PvKv K Hk kvs es) : PvKv K Hk (putK kvs k v) (pvPut es k d) := by
  unfold putK pvPut
  rw [pvKv_any k h]
  split
  · exact pvKv_repl k q h
  · exact pvKv_app h (.cons q .nil)
def pvR : Res → Option PV
  | .dat d => some (.dat d)
  | .pv p => some p
  | _ => none
theorem RsOk.pvR {r : Res} {v : V} {p : PV} (h : RsOk K σ Hk r v) (e : Cm.pvR r = some p) : PvOk K Hk v p := by
  cases r with
  | dat d => cases e; exact .dat h
  | pv q => cases e; exact h
  | new c => cases e
  | slt i => cases e
theorem ResOk.pvR {r : Res} {v : V} {p : PV} (h : ResOk K B env σ Hk H r v) (e : Cm.pvR r = some p) : PvOk K Hk v p := by
  cases r with
  | dat d => cases e; exact .dat h
  | pv q => cases e; exact h
  | new c => cases e
  | slt i => cases e
theorem key_V {v : V} {d : PyData} {k : Key} (h : Dv K Hk v d) (e : keyOf d = some k) : v = kV k := by
  cases d with
  | int i => cases e; cases h; rfl
  | str x => cases e; cases h; rfl
  | _ => cases e
theorem atI_len {α β : Type} {xs : List α} {ys : List β} {i : Int} {y : β} (h : xs.length = ys.length) (e : atI ys i = some y) : ∃ j : Nat, ys[j]? = some y ∧ atI xs i = xs[j]? := by
  unfold atI at *
  obtain ⟨j, h1, h2⟩ := Option.bind_eq_some_iff.mp e
  refine ⟨j, h2, ?_⟩
  rw [h, h1]
  rfl
theorem ix_at (R : Rel K B env σ Hk H) {v : V} {x z : PV} {i : Int} {Q : VK} (hx : PvOk K Hk v x) (h : PV.ix (sto env) x i = some z) (q : ∀ u, PvOk K Hk u z → Q u H) : rIx K v (.int i) H Q := by
  have pst : ∀ (vs : List V) (ps : List PV), PvAll K Hk vs ps → atI ps i = some z → ∃ u, atI vs i = some u ∧ Q u H := fun vs ps g2 g3 => by
    obtain ⟨j, h1, h2⟩ := atI_len g2.len g3
    obtain ⟨u, h4, h5⟩ := g2.get j z h1
    exact ⟨u, by rw [h2]; exact h4, q u h5⟩
  have dst : ∀ (vs : List V) (ds : List PyData), DvAll K Hk vs ds → (atI ds i).map PV.dat = some z → ∃ u, atI vs i = some u ∧ Q u H := fun vs ds g2 g3 => by
    obtain ⟨d, g4, rfl⟩ := Option.map_eq_some_iff.mp g3
    obtain ⟨j, h1, h2⟩ := atI_len g2.len g4
    obtain ⟨u, h4, h5⟩ := g2.get j d h1
    exact ⟨u, by rw [h2]; exact h4, q u (.dat h5)⟩
  unfold PV.ix at h
  cases hx with
  | tup h1 h2 =>
    obtain ⟨u, g1, g2⟩ := pst _ _ h2 h
    exact .inr (.inl ⟨_, _, i, u, rfl, rfl, same_tup R.ex h1.sq, g1, g2⟩)
  | @dat v d hd =>
    cases d with
    | list ds =>
      cases hd with
      | lst h1 h2 =>
        obtain ⟨u, g1, g2⟩ := dst _ _ h2 h
        exact .inl ⟨_, _, i, u, rfl, rfl, SqL.of (R.ex _ _ h1), g1, g2⟩
    | tuple ds =>
      cases hd with
      | tup h1 h2 =>
        obtain ⟨u, g1, g2⟩ := dst _ _ h2 h
        exact .inr (.inl ⟨_, _, i, u, rfl, rfl, same_tup R.ex h1, g1, g2⟩)
    | _ => cases h
  | @ref a n hr =>
    cases hc : (sto env)[n]? with
    | none => simp only [hc] at h; cases h
    | some c =>
      obtain ⟨hS, b, g1, g2, g3⟩ := R.stoAt hc
      rw [hr] at g1
      cases g1
      simp only [hc] at h
      cases c with
      | lst ps =>
        obtain ⟨vs, h4, h5⟩ := g2
        obtain ⟨u, w1, w2⟩ := pst _ _ h5 h
        exact .inl ⟨_, _, i, u, rfl, rfl, SqL.of h4, w1, w2⟩
      | kn c' =>
        cases c' with
        | lst ps =>
          obtain ⟨vs, h4, h5⟩ := g2
          obtain ⟨u, w1, w2⟩ := pst _ _ h5 h
          exact .inl ⟨_, _, i, u, rfl, rfl, SqL.of (R.ex _ _ h4), w1, w2⟩
        | _ => cases h
      | _ => cases h
theorem dx_at (R : Rel K B env σ Hk H) {v : V} {x : PV} {k : Key} {o : Option PV} (hx : PvOk K Hk v x) (h : PV.dx (sto env) x k = some o) : ∃ a kvs, v = .ref a ∧ Rd H a (.dK kvs) ∧ ((valV kvs k = none ∧ o = none) ∨ ∃ u p, valV kvs k = some u ∧ o = some p ∧ PvOk K Hk u p) := by
  have dst : ∀ (a : Addr) (kvs : List (Key × V)) (es : List (PyData × PyData)), Rd H a (.dK kvs) → DvKv K Hk kvs es → some ((dGet es k).map PV.dat) = some o → ∃ b kvs, V.ref a = .ref b ∧ Rd H b (.dK kvs) ∧ ((valV kvs k = none ∧ o = none) ∨ ∃ u p, valV kvs k = some u ∧ o = some p ∧ PvOk K Hk u p) := fun a kvs es g1 g2 g3 => by
    refine ⟨a, kvs, rfl, g1, ?_⟩
    rcases dvKv_get k g2 with ⟨z1, z2⟩ | ⟨u, d', z1, z2, z3⟩
    · rw [z2] at g3
      cases g3
      exact .inl ⟨z1, rfl⟩
    · rw [z2] at g3
      cases g3
      exact .inr ⟨u, _, z1, rfl, .dat z3⟩
  unfold PV.dx at h
  cases hx with
  | tup h1 h2 => cases h
  | @dat v d hd =>
    cases d with
    | dict es =>
      cases hd with
      | dct h1 h2 => exact dst _ _ _ (same_rd R.ex h1) h2 h
    | _ => cases h
  | @ref a n hr =>
    cases hc : (sto env)[n]? with
    | none => simp only [hc] at h; cases h
    | some c =>
      obtain ⟨hS, b, g1, g2, g3⟩ := R.stoAt hc
      rw [hr] at g1
      cases g1
      simp only [hc] at h
      cases c with
      | dct es =>
        obtain ⟨kvs, h4, h5⟩ := g2
        cases h
        refine ⟨a, kvs, rfl, .inl h4, ?_⟩
        rcases pvKv_get k h5 with ⟨z1, z2⟩ | ⟨u, p, z1, z2, z3⟩
        · exact .inl ⟨z1, z2⟩
        · exact .inr ⟨u, p, z1, z2, z3⟩
      | lk es =>
        obtain ⟨od, kvs, h1, h2⟩ := g2
        exact dst _ _ _ (same_rd R.ex (.inr ⟨od, h1⟩)) h2 h
      | kn c' =>
        cases c' with
        | dct es =>
          obtain ⟨kvs, h4, h5⟩ := g2
          cases h
          refine ⟨a, kvs, rfl, .inl (R.ex _ _ h4), ?_⟩
          rcases pvKv_get k h5 with ⟨z1, z2⟩ | ⟨u, p, z1, z2, z3⟩
          · exact .inl ⟨z1, z2⟩
          · exact .inr ⟨u, p, z1, z2, z3⟩
        | _ => cases h
      | _ => cases h
def mPix (ma mb : ME) : ME := fun env => (ma env).bind fun p => (mb p.2).bind fun q => (pvR p.1).bind fun x => match q.1 with
  | .dat (.int i) => (x.ix (sto q.2) i).map fun z => (.pv z, q.2)
  | _ => none
def mPdx (ma mb : ME) : ME := fun env => (ma env).bind fun p => (mb p.2).bind fun q => (pvR p.1).bind fun x => match q.1 with
  | .dat d => (keyOf d).bind fun k => (x.dx (sto q.2) k).bind fun o => o.map fun z => (.pv z, q.2)
  | _ => none
theorem pix_run {ma mb : ME} {Q : VK} (h : tE K (mPix ma mb) σ H Q) : tOp (rIx K) (tE K ma) (tE K mb) σ H Q := by
  obtain ⟨B, env, Hk, res, env', R, hm, k⟩ := h
  obtain ⟨⟨x, e1⟩, h1, hm⟩ := Option.bind_eq_some_iff.mp hm
  obtain ⟨⟨y, e2⟩, h2, hm⟩ := Option.bind_eq_some_iff.mp hm
  obtain ⟨px, h3, hm⟩ := Option.bind_eq_some_iff.mp hm
  cases y with
  | dat d =>
    cases d with
    | int i =>
      obtain ⟨pz, h5, hm⟩ := Option.map_eq_some_iff.mp hm
      cases hm
      refine ⟨B, env, Hk, x, e1, R, h1, fun v Hk1 H1 R1 s1 o1 => ?_⟩
      refine ⟨B, e1, Hk1, _, _, R1, h2, fun w Hk2 H2 R2 s2 o2 => ?_⟩
      cases o2
      exact ix_at R2 ((o1.pvR h3).mono s2) h5 fun u hu => k u Hk2 H2 R2 (s1.trans s2) hu
    | _ => cases hm
  | _ => cases hm
theorem pdx_run {ma mb : ME} {Q : VK} (h : tE K (mPdx ma mb) σ H Q) : tDGet (tE K ma) (tE K mb) σ H Q := by
  obtain ⟨B, env, Hk, res, env', R, hm, k⟩ := h
  obtain ⟨⟨x, e1⟩, h1, hm⟩ := Option.bind_eq_some_iff.mp hm
  obtain ⟨⟨y, e2⟩, h2, hm⟩ := Option.bind_eq_some_iff.mp hm
  obtain ⟨px, h3, hm⟩ := Option.bind_eq_some_iff.mp hm
  cases y with
  | dat d =>
    obtain ⟨kk, h4, hm⟩ := Option.bind_eq_some_iff.mp hm
    obtain ⟨o, h5, hm⟩ := Option.bind_eq_some_iff.mp hm
    obtain ⟨pz, h6, hm⟩ := Option.map_eq_some_iff.mp hm
    cases hm
    refine ⟨B, env, Hk, x, e1, R, h1, fun v Hk1 H1 R1 s1 o1 => ?_⟩
    refine ⟨B, e1, Hk1, _, _, R1, h2, fun w Hk2 H2 R2 s2 o2 => ?_⟩
    obtain ⟨a, kvs, rfl, g1, g2⟩ := dx_at R2 ((o1.pvR h3).mono s2) h5
    rcases g2 with ⟨z1, z2⟩ | ⟨u, p, z1, z2, z3⟩
    · rw [h6] at z2; cases z2
    · rw [h6] at z2
      cases z2
      rw [key_V o2 h4]
      exact ⟨a, u, rfl, .inl ⟨kvs, kk, g1, rfl, z1.symm⟩, k u Hk2 H2 R2 (s1.trans s2) z3⟩
  | _ => cases hm
theorem ve_pix {a b : Expr} {ma mb : ME} {pos : Pos} (ha : VE X a ma) (hb : VE X b mb) (hs : PlainIx b) : VE X (.Subscript a b pos) (mPix ma mb) := (pe_ix ix_seq ha hb hs).imp fun _ _ _ => pix_run
theorem ve_pdx {a b : Expr} {ma mb : ME} {pos : Pos} (hu : X.A.units + 64 < cLine) (ha : VE X a ma) (hb : VE X b mb) (hs : NoSl b) : VE X (.Subscript a b pos) (mPdx ma mb) := (pe_dget (by omega) ha hb hs).imp fun _ _ _ => pdx_run
end
def resFlat : Res → Bool
  | .dat d => noL d
  | .new (.lst ds) => noLs ds
  | .new (.dct es) => noLs (es.map (·.2))
  | _ => false
section
variable {X : Cx} {K : PySem.W.Frag} {B : Fb} {env env' : Sl} {σ : L2.St} {Hk Hk' : Kn} {H H' : Hp}
theorem tpK_kvs {Hk3 H3 : Hp} (e : Same Hk3 H3) (s : Same Hk Hk3) (hn : ∀ a, Hk3 a ≠ none → Hk a = none → H a = none ∨ ∃ o, H3 a = some o ∧ (∀ xs, o ≠ .tup xs) ∧ ∀ u xs, o ≠ .frz u (.tup xs)) : ∀ {vs : List (Key × V)} {ds : List (PyData × PyData)}, DvKv K Hk3 vs ds → noLs (ds.map (·.2)) = true → DvKv K (tpK Hk H H3) vs ds
  | _, _, .nil, _ => .nil
  | _, _, .cons h1 h2, hl => by
    simp only [List.map_cons, noLs, Bool.and_eq_true] at hl
    exact .cons (tpK_dv e s hn h1 hl.1) (tpK_kvs e s hn h2 hl.2)
end
section
variable {X : Cx} {K : PySem.W.Frag} {B : Fb} {env env' : Sl} {σ : L2.St} {Hk Hk' : Kn} {H H' : Hp}
theorem Rel.lstP (R : Rel K B env σ Hk H) {v : V} {n : Nat} {ps : List PV} (hv : PvOk K Hk v (.ref n)) (hc : (sto env)[n]? = some (.lst ps)) : ∃ a vs, v = .ref a ∧ Hk.P n = some a ∧ H a = some (.lst vs) ∧ PvAll K Hk vs ps := by
  obtain ⟨hS, a, g1, g2, g3⟩ := R.stoAt hc
  obtain ⟨vs, h1, h2⟩ := g2
  cases hv with
  | ref q =>
    rw [g1] at q
    cases q
    exact ⟨a, vs, rfl, g1, h1, h2⟩
theorem Rel.dctP (R : Rel K B env σ Hk H) {v : V} {n : Nat} {es : List (PyData × PV)} (hv : PvOk K Hk v (.ref n)) (hc : (sto env)[n]? = some (.dct es)) : ∃ a kvs, v = .ref a ∧ Hk.P n = some a ∧ H a = some (.dK kvs) ∧ PvKv K Hk kvs es := by
  obtain ⟨hS, a, g1, g2, g3⟩ := R.stoAt hc
  obtain ⟨vs, h1, h2⟩ := g2
  cases hv with
  | ref q =>
    rw [g1] at q
    cases q
    exact ⟨a, vs, rfl, g1, h1, h2⟩
theorem Rel.putL (R : Rel K B env σ Hk H) {n : Nat} {a : Addr} {ps ps' : List PV} {vs' : List V} (hc : (sto env)[n]? = some (.lst ps)) (hp : Hk.P n = some a) (h : PvAll K Hk vs' ps') : Rel K B (stoPut env ((sto env).set n (.lst ps'))) σ Hk (upd H a (.lst vs')) :=
  R.stoChange (hasSto_of hc) hc trivial trivial hp ⟨vs', upd_same, h⟩
theorem Rel.putD (R : Rel K B env σ Hk H) {n : Nat} {a : Addr} {es es' : List (PyData × PV)} {kvs' : List (Key × V)} (hc : (sto env)[n]? = some (.dct es)) (hp : Hk.P n = some a) (h : PvKv K Hk kvs' es') : Rel K B (stoPut env ((sto env).set n (.dct es'))) σ Hk (upd H a (.dK kvs')) :=
  R.stoChange (hasSto_of hc) hc trivial trivial hp ⟨kvs', upd_same, h⟩
def setDP (M : List MC) (p : PV) (k : Key) (x : PV) : Option (List MC) := match p with
  | .ref n => match M[n]? with
    | some (.dct es) => if es.length < 100000 then some (M.set n (.dct (pvPut es k x))) else none
    | _ => none
  | _ => none
def mPsetD (me mo mi : ME) : MS := fun env => (mIn me env).bind fun x => (mo x.2).bind fun o => (mi o.2).bind fun i => (pvR x.1).bind fun px => (pvR o.1).bind fun po => match i.1 with
  | .dat d => (keyOf d).bind fun k => (setDP (sto i.2) po k px).map fun M => (.nx, stoPut i.2 M)
  | _ => none
theorem psetD_run {me mo mi : ME} {W : WX} {D : Ends} (h : tS K W (mPsetD me mo mi) D σ H) : sDPut (tE K mo) (tE K mi) (tE K (mIn me)) D σ H := by
  obtain ⟨B, env, Hk, f, env', R, hm, k⟩ := h
  obtain ⟨⟨x, e1⟩, h1, hm⟩ := Option.bind_eq_some_iff.mp hm
  obtain ⟨⟨o, e2⟩, h2, hm⟩ := Option.bind_eq_some_iff.mp hm
  obtain ⟨⟨i, e3⟩, h3, hm⟩ := Option.bind_eq_some_iff.mp hm
  obtain ⟨px, h4, hm⟩ := Option.bind_eq_some_iff.mp hm
  obtain ⟨po, h5, hm⟩ := Option.bind_eq_some_iff.mp hm
  cases i with
  | dat d =>
    obtain ⟨kk, h7, hm⟩ := Option.bind_eq_some_iff.mp hm
    obtain ⟨M, h6, hm⟩ := Option.map_eq_some_iff.mp hm
    cases hm
    refine ⟨B, env, Hk, x, e1, R, h1, fun v Hk1 H1 R1 s1 o1 => ?_⟩
    refine ⟨B, e1, Hk1, o, e2, R1, h2, fun w Hk2 H2 R2 s2 o2 => ?_⟩
    refine ⟨B, e2, Hk2, _, e3, R2, h3, fun u Hk3 H3 R3 s3 o3 => ?_⟩
    cases po with
    | ref n =>
      unfold setDP at h6
      cases hc : (sto e3)[n]? with
      | none => simp only [hc] at h6; cases h6
      | some c =>
        cases c with
        | dct es =>
          simp only [hc] at h6
          split at h6
          · rename_i hl
            cases h6
            obtain ⟨a, kvs, rfl, g1, g2, g3⟩ := R3.dctP ((o2.pvR h5).mono s3) hc
            rw [key_V o3 h7]
            refine ⟨a, _, rfl, .inl ⟨kvs, kk, g2, rfl, by rw [pvKv_len g3]; exact Nat.lt_of_lt_of_le hl (by decide), rfl⟩, ?_⟩
            exact k σ Hk3 _ (R3.putD hc g1 (pvKv_put kk (((o1.pvR h4).mono s2).mono s3) g3)) ((s1.trans s2).trans s3)
          · cases h6
        | _ => simp only [hc] at h6; cases h6
    | _ => cases h6
  | _ => cases hm
theorem vs_psetD {o ix e : Expr} {me mo mi : ME} {tpos pos : Pos} (hu : X.A.units + 64 < cLine) (he : VE X e me) (ho : VE X o mo) (hi : VE X ix mi) (hs : swapsWith e (some (.Subscript o ix tpos)) pos.line X.env = pure false := by rfl) : VS X (.Assign [.Subscript o ix tpos] e pos) (mPsetD me mo mi) :=
  fun W _ => (ps_dput (by omega) ho hi (ve_in he) hs).imp fun _ _ _ => psetD_run
def pvRs : List Res → Option (List PV)
  | [] => some []
  | r :: rs => (pvR r).bind fun p => (pvRs rs).map (p :: ·)
theorem RsAll.pvs : ∀ {rs : List Res} {vs : List V} {ps : List PV}, RsAll K σ Hk rs vs → pvRs rs = some ps → PvAll K Hk vs ps
  | _, _, _, .nil, h => by
    cases h
    exact .nil
  | _, _, _, .cons h1 h2, h => by
    obtain ⟨p, g1, h⟩ := Option.bind_eq_some_iff.mp h
    obtain ⟨ps, g2, rfl⟩ := Option.map_eq_some_iff.mp h
    exact .cons (h1.pvR g1) (RsAll.pvs h2 g2)
def isLP (M : List MC) : PV → Bool
  | .ref n => match M[n]? with
    | some (.lst _) => true
    | _ => false
  | _ => false
abbrev GM := List MC → PV → List PV → Option (PV × List MC)
def mPM (g : GM) (mo : ME) (ms : MA) : ME := fun env => (mo env).bind fun o => (pvR o.1).bind fun x => if isLP (sto o.2) x = true then (ms o.2).bind fun p => (pvRs p.1).bind fun ps => (g (sto p.2) x ps).map fun z => (.pv z.1, stoPut p.2 z.2) else none
def PMt (K : PySem.W.Frag) (r : V → List V → Hp → VK → Prop) (g : GM) : Prop := ∀ {B : Fb} {env : Sl} {σ : L2.St} {Hk : Kn} {H : Hp} {x : V} {vs : List V} {p : PV} {ps : List PV} {z : PV × List MC} {Q : VK}, Rel K B env σ Hk H → PvOk K Hk x p → PvAll K Hk vs ps → g (sto env) p ps = some z →
  (∀ v H', Rel K B (stoPut env z.2) σ Hk H' → PvOk K Hk v z.1 → Q v H') → r x vs H Q
theorem pm_run {g : GM} {r : V → List V → Hp → VK → Prop} (hg : PMt K r g) {mo : ME} {ms : MA} {Q : VK} (h : tE K (mPM g mo ms) σ H Q) : tBM K "list" r (tE K mo) (tA K ms) σ H Q := by
  obtain ⟨B, env, Hk, res, env', R, hm, k⟩ := h
  obtain ⟨⟨o, e1⟩, h1, hm⟩ := Option.bind_eq_some_iff.mp hm
  obtain ⟨x, h2, hm⟩ := Option.bind_eq_some_iff.mp hm
  by_cases hT : isLP (sto e1) x = true
  · have hm : (if isLP (sto e1) x = true then _ else _) = some (res, env') := hm
    rw [if_pos hT] at hm
    obtain ⟨⟨rs, e2⟩, h3, hm⟩ := Option.bind_eq_some_iff.mp hm
    obtain ⟨ps, h4, hm⟩ := Option.bind_eq_some_iff.mp hm
    obtain ⟨z, h5, hm⟩ := Option.map_eq_some_iff.mp hm
    cases hm
    refine ⟨B, env, Hk, o, e1, R, h1, fun v Hk1 H1 R1 s1 o1 => ?_⟩
    have ox := o1.pvR h2
    refine ⟨?_, B, e1, Hk1, rs, e2, R1, h3, fun vs Hk2 H2 R2 s2 o2 => ?_⟩
    · cases x with
      | ref n =>
        unfold isLP at hT
        cases hc : (sto e1)[n]? with
        | none => simp only [hc] at hT; cases hT
        | some c =>
          cases c with
          | lst ps =>
            obtain ⟨a, vs, rfl, _, g2, _⟩ := R1.lstP ox hc
            exact .inl ⟨rfl, vs, SqL.of g2⟩
          | _ => simp only [hc] at hT; cases hT
      | _ => cases hT
    · exact hg R2 (ox.mono s2) (o2.pvs h4) h5 fun u H' R' q => k u Hk2 H' R' (s1.trans s2) q
  · have hm : (if isLP (sto e1) x = true then _ else _) = some (res, env') := hm
    rw [if_neg hT] at hm
    cases hm
theorem ve_pm {e o : Expr} {es : List Expr} {mo : ME} {ms : MA} {g : GM} {name : Str} {id : String} {r : V → List V → Hp → VK → Prop} {apos cpos : Pos} (slot : PySem.Slot "list" name id) (hty : typeOf (.builtin id) = pure (.type "method_descriptor")) (hm : MtR X id r) (hg : PMt X.K r g) (ho : VE X o mo) (ha : VA X (e :: es) ms)
    (hbase : attributeBase o name X.env (eval o X.env) = eval o X.env := by rfl)
    (hfew : ((backTo cpos (starEach (e :: es) X.env)).all (fun x => !x.1) && (backToKw cpos (keywordEach [] X.env)).all (fun x => x.1.isSome)
      && decide ((e :: es).length + ([] : List Keyword).length + (if ([] : List Keyword).isEmpty then 0 else 1) < 30)) = true := by rfl)
    (hline : (apos.endLine == cpos.line) = true := by rfl) (hs : starEach (e :: es) X.env = (false, eval e X.env) :: starEach es X.env := by rfl) (hplain : (backTo cpos (starEach es X.env)).any (·.1) = false := by rfl) :
    VE X (.Call (.Attribute o name apos) (e :: es) [] cpos) (mPM g mo ms) := (pe_bm PySem.F.plainAttrs_list slot hty hm ho ha hbase hfew hline hs hplain).imp fun _ _ _ => pm_run hg
def gAppP : GM := fun M p xs => match p, xs with
  | .ref n, [x] => match M[n]? with
    | some (.lst ps) => if ps.length < 100000 then some (.dat .none, M.set n (.lst (ps ++ [x]))) else none
    | _ => none
  | _, _ => none
theorem pm_app : PMt K rAppend gAppP := by
  intro B env σ Hk H x vs p ps z Q R hx hs h q
  unfold gAppP at h
  split at h
  · rename_i n y
    split at h
    · rename_i ps hc
      split at h
      · rename_i hl
        cases h
        obtain ⟨a, ws, rfl, g1, g2, g3⟩ := R.lstP hx hc
        cases hs with
        | cons h1 h2 =>
          cases h2
          exact ⟨a, ws, _, rfl, rfl, g2, by rw [g3.len]; exact Nat.lt_of_lt_of_le hl (by decide), q _ _ (R.putL hc g1 (g3.append (.cons h1 .nil))) (.dat .non)⟩
      · cases h
    · cases h
  · cases h
def mPlst (ms : MA) : ME := fun env => (ms env).bind fun p => (pvRs p.1).bind fun ps => match p.2[p.2.length - 1]? with
  | some (.sto M) => if ps.length ≤ 100000 then some (.pv (.ref M.length), stoPut p.2 (M ++ [.lst ps])) else none
  | _ => none
theorem plst_run {ms : MA} {Q : VK} (h : tE K (mPlst ms) σ H Q) : tLst (tA K ms) σ H Q := by
  obtain ⟨B, env, Hk, res, env', R, hm, k⟩ := h
  obtain ⟨⟨rs, e1⟩, h1, hm⟩ := Option.bind_eq_some_iff.mp hm
  obtain ⟨ps, h2, hm⟩ := Option.bind_eq_some_iff.mp hm
  dsimp only at hm
  split at hm
  · rename_i M hS
    by_cases hl : ps.length ≤ 100000
    · rw [if_pos hl] at hm
      cases hm
      refine ⟨B, env, Hk, rs, e1, R, h1, fun vs Hk1 H1 R1 s1 o1 => ?_⟩
      have da := o1.pvs h2
      refine ⟨by rw [da.len]; exact sz_of hl, fun p hp => ?_⟩
      have R2 : Rel K B e1 σ Hk1 (upd H1 p (.lst vs)) := R1.laid hp
      obtain ⟨R3, s3, q3⟩ := R2.stoTake (M := M) hS (R1.kfree hp) (R1.fresh0 hp) (R1.pfree hp) (fun j s hj hm => R1.mutNe hp hj hm) (c := .lst ps) ⟨vs, upd_same, da⟩ trivial
      exact k _ _ _ R3 (s1.trans s3) q3
    · rw [if_neg hl] at hm
      cases hm
  · cases hm
theorem ve_plst {es : List Expr} {ms : MA} {pos : Pos} (h : VA X es ms) : VE X (.List es pos) (mPlst ms) := (pe_lst h).imp fun _ _ _ => plst_run
end
end Cm
namespace Cm
open PySem PySem.Spec PyProof.Rows L2
def FResM (K : PySem.W.Frag) (H : Hp) (Hk' : Kn) (H' : Hp) (r : Res) (v : V) : Prop := match r with
  | .dat d => Dv K Hk' v d
  | .new c => ∃ a, v = .ref a ∧ Hk' a = none ∧ H a = none ∧ CellAt K Hk' H' a c ∧ ∀ (n : Nat), Hk'.P n ≠ some a
  | .pv p => PvOk K Hk' v p
  | .slt _ => False
def spM (K : PySem.W.Frag) (fm : FMM) : Sp := fun vs H Q _ => ∃ (Hk : Kn) (ins : Sl) (M : List MC) (r : Res) (outs : Sl) (M' : List MC), Same Hk H ∧ StoIn K Hk H M ∧ ArgsM K Hk H ins vs ∧ fm M ins = some (r, outs, M') ∧
  ∀ v (Hk' : Kn) H', PostM K Hk H ins vs outs M' Hk' H' → FResM K H Hk' H' r v → Q v H'
def finM : Fl × Sl → Option Res
  | (.nx, _) => some (.dat .none)
  | (.rt (.dat d), _) => some (.dat d)
  | (.rt (.new c), _) => some (.new c)
  | (.rt (.pv p), _) => some (.pv p)
  | (.rt (.slt i), e) => match e[i]? with
    | some (.val d) => some (.dat d)
    | some (.own c) => some (.new c)
    | _ => none
  | _ => none
def fmM (np n : Nat) (mb : MS) : FMM := fun M ins => if ins.length = np then (mb ((ins ++ List.replicate (n - np) Slot.no).set (n - 1) (.sto M))).bind fun p => (finM p).bind fun r => if ioKept ins p.2 = true then (match p.2[p.2.length - 1]? with
    | some (.sto M') => some (r, p.2.take np, M')
    | _ => none) else none else none
section
variable {P : Program} {w : World} {K : PySem.W.Frag} {mg : Str → Option Value} {base : Heap}
theorem fmM_len {np n : Nat} {mb : MS} {M : List MC} {ins : Sl} {r : Res × Sl × List MC} (h : fmM np n mb M ins = some r) : ins.length = np := by
  unfold fmM at h
  by_cases hl : ins.length = np
  · exact hl
  · rw [if_neg hl] at h
    cases h
theorem spM_len {N ps : List Str} {mb : MS} (vs : List V) (H : Hp) (Q : VK) (E : XK) (h : spM K (fmM ps.length N.length mb) vs H Q E) : vs.length = ps.length := by
  obtain ⟨Hk, ins, M, r, outs, M', _, _, hA, hf, _⟩ := h
  rw [← hA.len, fmM_len hf]
theorem ArgsM.rel {Hk : Kn} {H : Hp} {ins : Sl} {vs : List V} {N : List Str} {M : List MC} (A : ArgsM K Hk H ins vs) (S : StoIn K Hk H M) (s : Same Hk H) (hl : vs.length < N.length) :
    Cm.Rel K ⟨Hk, H, ioA ins vs, fun _ => none, fun a => ∃ n, Hk.P n = some a ∧ Hk a = none⟩ ((ins ++ List.replicate (N.length - ins.length) Slot.no).set (N.length - 1) (.sto M)) (L2.start N vs) Hk H := by
  have hA : ∀ a, (∃ k, ioA ins vs k = some a) → H a ≠ none ∧ Hk a = none ∧ ∀ (n : Nat), Hk.P n ≠ some a := fun a h => by
    obtain ⟨k, h⟩ := h
    obtain ⟨l, c, e1, e2⟩ := ioA_of h
    obtain ⟨b, e3, q1, q2, q3⟩ := A.arg k _ _ e1 e2
    cases e3
    obtain ⟨o, ho⟩ := q2.there
    exact ⟨ne_none ho, q1, q3⟩
  have io : ∀ a, (⟨Hk, H, ioA ins vs, fun _ => none, fun a => ∃ n, Hk.P n = some a ∧ Hk a = none⟩ : Fb).io a → H a ≠ none ∧ Hk a = none := fun a h => by
    rcases h with h | ⟨n, h1, h2⟩
    · exact ⟨(hA a h).1, (hA a h).2.1⟩
    · exact ⟨S.pin n a h1, h2⟩
  have hlen : (ins ++ List.replicate (N.length - ins.length) Slot.no).length = N.length := by
    rw [List.length_append, List.length_replicate]
    have := A.len
    omega
  have cut : ∀ (i : Nat) s, ((ins ++ List.replicate (N.length - ins.length) Slot.no).set (N.length - 1) (.sto M))[i]? = some s → (ins[i]? = some s ∧ i < vs.length) ∨ s = .no ∨ (s = .sto M ∧ i = N.length - 1) := fun i s h => by
    rcases set_get h with ⟨h1, h2⟩ | ⟨_, h⟩
    · exact .inr (.inr ⟨h2, h1⟩)
    · by_cases hi : i < ins.length
      · rw [List.getElem?_append_left hi] at h
        exact .inl ⟨h, by rw [← A.len]; exact hi⟩
      · rw [List.getElem?_append_right (by omega), List.getElem?_replicate] at h
        split at h
        · cases h
          exact .inr (.inl rfl)
        · cases h
  have nsto : ∀ (i : Nat) M1, ins[i]? = some (.sto M1) → i < vs.length → False := fun i M1 h hi => by
    have := A.arg i _ _ h (List.getElem?_eq_getElem hi)
    exact this
  refine ⟨s, .refl _, fun a h1 h2 => absurd h2 h1, fun a o h _ => h, io, fun a h => (io a h).1, ?_, fun i s h => ?_, fun i j s t a h1 h2 m1 m2 e1 e2 => ?_, fun M1 h => ?_, fun n a h => ⟨S.pin n a h, fun z => .inr (.inr ⟨n, h, z⟩)⟩, fun i s a n hi ms e1 => ?_⟩
  · rw [List.length_set, hlen, start_len (by omega)]
  · have hlt : i < (L2.start N vs).length := by
      have := (List.getElem?_eq_some_iff.mp h).1
      rw [List.length_set, hlen] at this
      rw [start_len (by omega)]
      exact this
    rcases cut i s h with ⟨q, hi⟩ | rfl | ⟨rfl, _⟩
    · have hv : vs[i]? = some vs[i] := List.getElem?_eq_getElem hi
      refine ⟨some vs[i], start_get hv, ?_⟩
      have z := A.arg i s _ q hv
      cases s with
      | no => trivial
      | val d => exact ⟨_, rfl, z⟩
      | pv p => exact ⟨_, rfl, z⟩
      | own c => cases z
      | scr ns =>
        obtain ⟨a, e1, q1⟩ := z
        exact ⟨a, by rw [e1], q1⟩
      | pin a => cases z
      | sto M => cases z
      | io k c =>
        obtain ⟨a, e1, q1, q2, q3⟩ := z
        refine ⟨a, by rw [e1], q1, ?_, q2⟩
        have := A.ix i k c q
        subst this
        exact ioA_is q (by rw [hv, e1])
    · exact ⟨_, List.getElem?_eq_getElem hlt, trivial⟩
    · exact ⟨_, List.getElem?_eq_getElem hlt, trivial⟩
  · rcases cut i s h1 with ⟨q1, hi⟩ | rfl | ⟨rfl, _⟩
    · rcases cut j t h2 with ⟨q2, hj⟩ | rfl | ⟨rfl, _⟩
      · have v1 : vs[i]? = some vs[i] := List.getElem?_eq_getElem hi
        have v2 : vs[j]? = some vs[j] := List.getElem?_eq_getElem hj
        have g1 := start_get (N := N) v1
        have g2 := start_get (N := N) v2
        rw [e1] at g1
        rw [e2] at g2
        have w1 : vs[i]? = some (.ref a) := by rw [v1]; exact congrArg some (Option.some.inj (Option.some.inj g1)).symm
        have w2 : vs[j]? = some (.ref a) := by rw [v2]; exact congrArg some (Option.some.inj (Option.some.inj g2)).symm
        cases s with
        | own c => exact False.elim (A.arg i _ _ q1 w1)
        | io k c =>
          cases t with
          | own c => exact False.elim (A.arg j _ _ q2 w2)
          | io l c' => exact A.sep i j k l c c' a q1 q2 w1 w2
          | _ => cases m2
        | _ => cases m1
      · cases m2
      · cases m2
    · cases m1
    · cases m1
  · unfold HasSto at h
    rw [List.length_set, hlen, List.getElem?_set_self (by rw [hlen]; omega)] at h
    cases h
    exact ⟨S.cel, S.inj, S.top⟩
  · rcases cut i s hi with ⟨q1, hi⟩ | rfl | ⟨rfl, _⟩
    · have v1 : vs[i]? = some vs[i] := List.getElem?_eq_getElem hi
      have g1 := start_get (N := N) v1
      rw [e1] at g1
      have w1 : vs[i]? = some (.ref a) := by rw [v1]; exact congrArg some (Option.some.inj (Option.some.inj g1)).symm
      cases s with
      | own c => exact False.elim (A.arg i _ _ q1 w1)
      | io k c =>
        obtain ⟨b, e, _, _, q3⟩ := A.arg i _ _ q1 w1
        cases e
        exact q3 n
      | _ => cases ms
    · cases ms
    · cases ms
theorem fnM_body {qual : Str} {st : Stmt} {f : Addr} {N ps : List Str} {mb : MS} (S : FnScope N ps (defScope st)) (hN : ps.length < N.length) {cdv : Value} {A : Around} {outer : List Env} {s : Shared} {H : Hp} {E : XK} {vs : List V} {Q : VK}
    (hb : VSs ((cxOf CX0 P w K mg base N qual (defScope st) f cdv A outer s H E).nox) (defBody st) mb) (h : spM K (fmM ps.length N.length mb) vs H Q E) :
    ∃ t, PSs (cxOf CX0 P w K mg base N qual (defScope st) f cdv A outer s H E) (defBody st) t ∧ t { nx := fun _ H' => Q .non H', rt := Q } (L2.start N vs) H := by
  obtain ⟨Hk, ins, M, r, outs, M', sm, hS, hA, hf, q⟩ := h
  have hl := fmM_len hf
  unfold fmM at hf
  rw [if_pos hl] at hf
  obtain ⟨⟨fl, env'⟩, h1, hf⟩ := Option.bind_eq_some_iff.mp hf
  obtain ⟨r', h2, hf⟩ := Option.bind_eq_some_iff.mp hf
  by_cases hk : ioKept ins env' = true
  · have hf : (if ioKept ins env' = true then _ else _) = some (r, outs, M') := hf
    rw [if_pos hk] at hf
    dsimp only at hf
    split at hf
    · rename_i M2 hM
      cases hf
      refine ⟨tS K (fun _ _ _ _ => False) mb, PSs.nox (hb _ fun u s' h => by obtain ⟨_, _, _, _, _, _, _, _, _, _, _, _, _, _, _, _, w⟩ := h; exact w.elim), ?_⟩
      have R := hA.rel (N := N) hS sm (by rw [← hA.len, hl]; exact hN)
      rw [hl] at R
      refine ⟨_, _, _, fl, env', R, h1, fun σ' Hk' H' R' s' => ?_⟩
      have hsto : HasSto env' M' := hM
      have hio : ∀ (n : Nat) k a, Hk'.P n = some a → ioA ins vs k ≠ some a := fun n k a h1 h2 => by
        obtain ⟨l, c, e1, e2⟩ := ioA_of h2
        have := hA.ix k l c e1
        subst this
        obtain ⟨c', g1⟩ := ioKept_get hk e1
        obtain ⟨o, z0, b, rfl, _, z1, z2⟩ := R'.slot l _ g1
        have z1 : ioA ins vs l = some b := z1
        rw [h2] at z1
        cases z1
        exact R'.psep l _ a n g1 trivial z0 h1
      have post : PostM K Hk H ins vs (env'.take ps.length) M' Hk' H' := by
        have SO := R'.sok M' hsto
        refine ⟨s', R'.ex, R'.fr, fun a o h1 h2 h3 => R'.kp a o h1 (fun z => z.elim (fun ⟨k, z⟩ => h2 k z) fun ⟨n, z1, z2⟩ => h3 n z1 z2), fun k a h => ?_, ⟨SO.cel, SO.inj, SO.top, fun n a h => (R'.pin n a h).1⟩, fun n a h1 h2 h3 => ?_, fun n a h1 h2 => (R'.oin a (.inr ⟨n, h1, h2⟩)).2⟩
        · obtain ⟨l, c, e1, e2⟩ := ioA_of h
          have := hA.ix k l c e1
          subst this
          obtain ⟨c', g1⟩ := ioKept_get hk e1
          have hlt : l < ps.length := by rw [← hl]; exact (List.getElem?_eq_some_iff.mp e1).1
          refine ⟨c', by rw [List.getElem?_take_of_lt hlt]; exact g1, (R'.oin a (.inl ⟨l, h⟩)).2, ?_, fun n z => hio n l a z h⟩
          obtain ⟨o, _, b, _, _, z1, z2⟩ := R'.slot l _ g1
          have z1 : ioA ins vs l = some b := z1
          rw [h] at z1
          cases z1
          exact z2
        · rcases (R'.pin n a h1).2 h3 with z | z
          · exact z
          · rcases z with ⟨k, z⟩ | ⟨m, z1, z2⟩
            · exact absurd z (hio n k a h1)
            · have := SO.inj n m a h1 (s'.p _ _ z1)
              subst this
              rw [h2] at z1
              cases z1
      have fin : ∀ v, FResM K H Hk' H' r v → Q v H' := fun v hv => q v Hk' H' post hv
      cases fl with
      | nx =>
        cases h2
        exact fin .non .non
      | bk => cases h2
      | ct => cases h2
      | ex C fs => cases h2
      | rt r0 =>
        intro v hv
        cases r0 with
        | dat d =>
          cases h2
          exact fin v hv
        | pv p =>
          cases h2
          exact fin v hv
        | new c =>
          cases h2
          obtain ⟨a, rfl, q1, q2, q3, q5, _⟩ := hv
          exact fin _ ⟨a, rfl, q1, q2, q3, q5⟩
        | slt i =>
          have hv : σ'[i]? = some (some v) := hv
          cases e : env'[i]? with
          | none =>
            simp only [finM, e] at h2
            cases h2
          | some s =>
            obtain ⟨o, g1, g2⟩ := R'.slot i s e
            rw [hv] at g1
            cases g1
            simp only [finM, e] at h2
            cases s with
            | val d =>
              cases h2
              obtain ⟨v', e1, z⟩ := g2
              cases e1
              exact fin _ z
            | own c =>
              cases h2
              obtain ⟨a, e1, z1, z2, z3⟩ := g2
              cases e1
              exact fin _ ⟨a, rfl, z1, z2, z3, fun n => R'.psep i _ a n e trivial hv⟩
            | _ => cases h2
    · cases hf
  · have hf : (if ioKept ins env' = true then _ else _) = some (r, outs, M') := hf
    rw [if_neg hk] at hf
    cases hf
theorem fnM_ok {x qual : Str} {st : Stmt} {f : Addr} {fd : FuncData} {N ps : List Str} {k : Nat} {mb : MS} (F : FunD K x qual (defArgs st) (defBody st) (defScope st) [] [] f fd) (S : FnScope N ps (defScope st)) (hN : ps.length < N.length)
    (hb : ∀ (cdv : Value) (A : Around) (outer : List Env) (s : Shared) (H : Hp) (E : XK), Room k (A.deeper (envOfC qual (defScope st) s.heap.objs.size f cdv)) → VSs ((cxOf CX0 P w K mg base N qual (defScope st) f cdv A outer s H E).nox) (defBody st) mb) :
    FnOk P w K mg base CX0 (k + 1) f fd ps (spM K (fmM ps.length N.length mb)) :=
  F.ok (CX := CX0) S spM_len fun cdv A outer s H vs Q E hr h => fnM_body S hN (hb cdv A outer s H E hr) h
end
def argM (io : Option Nat) (env : Sl) (k : Nat) (r : Res) : Option Slot := if io = some k then (match r with
    | .slt i => match env[i]? with
      | some (.own c) => some (.io k c)
      | some (.io _ c) => some (.io k c)
      | _ => none
    | _ => none) else match r with
    | .dat d => some (.val d)
    | .pv p => some (.pv p)
    | .slt i => match env[i]? with
      | some (.val d) => some (.val d)
      | some (.scr ns) => some (.scr ns)
      | some (.own _) => some .no
      | some (.io _ _) => some .no
      | _ => none
    | _ => none
def argsM (io : Option Nat) (env : Sl) : Nat → List Res → Option Sl
  | _, [] => some []
  | k, r :: rs => (argM io env k r).bind fun s => (argsM io env (k + 1) rs).map (s :: ·)
def callM (fm : FMM) (io : Option Nat) (rs : List Res) (e : Sl) : Option (Res × Sl) := match e[e.length - 1]? with
  | some (.sto M) => (argsM io e 0 rs).bind fun ins => (fm M ins).bind fun q => (backV io e rs q.2.1).map fun e2 => (q.1, stoPut e2 q.2.2)
  | _ => none
section
variable {X : Cx} {K : PySem.W.Frag} {B : Fb} {env e2 : Sl} {σ : L2.St} {Hk : Kn} {H : Hp}
theorem argsM_get {io : Option Nat} : ∀ {rs : List Res} {k : Nat} {ins : Sl}, argsM io env k rs = some ins → ins.length = rs.length ∧ ∀ (i : Nat) r, rs[i]? = some r → ∃ s, ins[i]? = some s ∧ argM io env (k + i) r = some s
  | [], k, ins, h => by
    cases h
    exact ⟨rfl, fun i r e => by simp at e⟩
  | r :: rs, k, ins, h => by
    obtain ⟨s, h1, h⟩ := Option.bind_eq_some_iff.mp h
    obtain ⟨ss, h2, h3⟩ := Option.map_eq_some_iff.mp h
    subst h3
    obtain ⟨l, g⟩ := argsM_get h2
    refine ⟨by simp [l], fun i r' e => ?_⟩
    cases i with
    | zero =>
      simp at e
      subst e
      exact ⟨s, rfl, h1⟩
    | succ i =>
      obtain ⟨s', q1, q2⟩ := g i r' (by simpa using e)
      refine ⟨s', by simpa using q1, ?_⟩
      rw [show k + (i + 1) = k + 1 + i by omega]
      exact q2
theorem argM_io {io : Option Nat} {i : Nat} {r : Res} {s : Slot} (h : argM io env i r = some s) {k : Nat} {c : Cell} (e : s = .io k c) : k = i ∧ io = some i ∧ ∃ j t, r = .slt j ∧ env[j]? = some t ∧ t.mut ∧ (t = .own c ∨ ∃ l, t = .io l c) := by
  subst e
  unfold argM at h
  by_cases hio : io = some i
  · rw [if_pos hio] at h
    cases r with
    | slt j =>
      cases ej : env[j]? with
      | none => simp only [ej] at h; cases h
      | some t =>
        simp only [ej] at h
        cases t with
        | own c2 =>
          cases h
          exact ⟨rfl, hio, j, _, rfl, ej, trivial, .inl rfl⟩
        | io l c2 =>
          cases h
          exact ⟨rfl, hio, j, _, rfl, ej, trivial, .inr ⟨l, rfl⟩⟩
        | _ => cases h
    | _ => cases h
  · rw [if_neg hio] at h
    cases r with
    | slt j =>
      cases ej : env[j]? with
      | none => simp only [ej] at h; cases h
      | some t =>
        simp only [ej] at h
        cases t <;> cases h
    | dat d => cases h
    | pv p => cases h
    | new c => cases h
theorem callM_ok (R : Cm.Rel K B env σ Hk H) {fm : FMM} {io : Option Nat} {rs : List Res} {vs : List V} {r : Res} (h : callM fm io rs env = some (r, e2)) (hr : RsAll K σ Hk rs vs) {Q : VK}
    (k : ∀ v (Hk' : Kn) H', Cm.Rel K B e2 σ Hk' H' → KSame Hk Hk' → ResOk K B e2 σ Hk' H' r v → Q v H') : spM K fm vs H Q E0 := by
  unfold callM at h
  split at h
  · rename_i M hS
    obtain ⟨ins, h1, h⟩ := Option.bind_eq_some_iff.mp h
    obtain ⟨⟨r', outs, M'⟩, h2, h⟩ := Option.bind_eq_some_iff.mp h
    obtain ⟨e1, h3, h⟩ := Option.map_eq_some_iff.mp h
    cases h
    have hS : HasSto env M := hS
    have SO := R.sok M hS
    obtain ⟨la, ga⟩ := argsM_get h1
    have hl : ins.length = vs.length := by rw [la, hr.len]
    have at_ : ∀ (i : Nat) s, ins[i]? = some s → ∃ r, rs[i]? = some r ∧ argM io env i r = some s := fun i s hs => by
      have hi : i < rs.length := by rw [← la]; exact (List.getElem?_eq_some_iff.mp hs).1
      obtain ⟨s', q1, q2⟩ := ga i _ (List.getElem?_eq_getElem hi)
      rw [hs] at q1
      cases q1
      rw [Nat.zero_add] at q2
      exact ⟨_, List.getElem?_eq_getElem hi, q2⟩
    have A : ArgsM K Hk H ins vs := by
      refine ⟨hl, fun i s v e1 e2 => ?_, fun i k c e => ?_, fun i j k l c c' a e1 e2 _ _ => ?_⟩
      · obtain ⟨r, q1, q2⟩ := at_ i s e1
        obtain ⟨r2, q3, q4⟩ := hr.get i v e2
        rw [q1] at q3
        cases q3
        unfold argM at q2
        by_cases hio : io = some i
        · rw [if_pos hio] at q2
          cases r with
          | slt j =>
            have q4 : σ[j]? = some (some v) := q4
            cases ej : env[j]? with
            | none => simp only [ej] at q2; cases q2
            | some t =>
              simp only [ej] at q2
              obtain ⟨o, w1, w2⟩ := R.slot j _ ej
              rw [q4] at w1
              cases w1
              cases t with
              | own c =>
                cases q2
                obtain ⟨a, e, z1, z2, z3⟩ := w2
                cases e
                exact ⟨a, rfl, z1, z3, fun n => R.psep j _ a n ej trivial q4⟩
              | io l c =>
                cases q2
                obtain ⟨a, e, z1, z2, z3⟩ := w2
                cases e
                exact ⟨a, rfl, z1, z3, fun n => R.psep j _ a n ej trivial q4⟩
              | _ => cases q2
          | _ => cases q2
        · rw [if_neg hio] at q2
          cases r with
          | dat d => cases q2; exact q4
          | pv p => cases q2; exact q4
          | new c => cases q2
          | slt j =>
            have q4 : σ[j]? = some (some v) := q4
            cases ej : env[j]? with
            | none => simp only [ej] at q2; cases q2
            | some t =>
              simp only [ej] at q2
              obtain ⟨o, w1, w2⟩ := R.slot j _ ej
              rw [q4] at w1
              cases w1
              cases t with
              | val d =>
                cases q2
                obtain ⟨v', e, z⟩ := w2
                cases e
                exact z
              | scr ns =>
                cases q2
                obtain ⟨a, e, z⟩ := w2
                cases e
                exact ⟨a, rfl, z⟩
              | own c =>
                cases q2
                trivial
              | io l c =>
                cases q2
                trivial
              | _ => cases q2
      · obtain ⟨r, q1, q2⟩ := at_ i _ e
        exact (argM_io q2 rfl).1
      · obtain ⟨r, q1, q2⟩ := at_ i _ e1
        obtain ⟨r2, q3, q4⟩ := at_ j _ e2
        have z1 := (argM_io q2 rfl).2.1
        have z2 := (argM_io q4 rfl).2.1
        rw [z1] at z2
        exact Option.some.inj z2
    -- the argument that is changed
    have ioAt : ∀ k a, ioA ins vs k = some a → io = some k ∧ ∃ j t, rs[k]? = some (.slt j) ∧ env[j]? = some t ∧ t.mut ∧ σ[j]? = some (some (V.ref a)) := fun k a e => by
      obtain ⟨l, c, e1, e2⟩ := ioA_of e
      obtain ⟨r, q1, q2⟩ := at_ k _ e1
      obtain ⟨rfl, z2, j, t, rfl, z4, z5, _⟩ := argM_io q2 rfl
      obtain ⟨r2, q3, q4⟩ := hr.get l _ e2
      rw [q1] at q3
      cases q3
      exact ⟨z2, j, t, q1, z4, z5, q4⟩
    refine ⟨Hk, ins, M, r', outs, M', R.ex, ⟨SO.cel, SO.inj, SO.top, fun n a h => (R.pin n a h).1⟩, A, h2, fun v Hk' H' p hres => ?_⟩
    have fresh : ∀ a, H a ≠ none → Hk a = none → Hk' a = none := fun a h1 h2 => by
      cases q : Hk' a with
      | none => rfl
      | some u => exact absurd (p.fr a (ne_none q) h2) h1
    have he1 : e1.length = env.length ∧ e1[env.length - 1]? = some (.sto M) ∧ ∀ (j : Nat) s, e1[j]? = some s → (env[j]? = some s ∧ ∀ k a, ioA ins vs k = some a → s.mut → σ[j]? ≠ some (some (V.ref a))) ∨ ∃ k a c t, ioA ins vs k = some a ∧ outs[k]? = some (.io k c) ∧ env[j]? = some t ∧ t.mut ∧ s = t.put c ∧ σ[j]? = some (some (V.ref a)) := by
      rcases back_is h3 with ⟨hio, rfl⟩ | ⟨q, i, k', c, s', hq, g1, g2, g3, rfl⟩
      · refine ⟨rfl, hS, fun j s hj => .inl ⟨hj, fun k a e => ?_⟩⟩
        rw [hio] at *
        cases (ioAt k a e).1
      · have hql : q < vs.length := by
          rw [← hr.len]
          exact (List.getElem?_eq_some_iff.mp g1).1
        obtain ⟨r2, z1, z2⟩ := hr.get q _ (List.getElem?_eq_getElem hql)
        rw [g1] at z1
        cases z1
        have z2 : σ[i]? = some (some vs[q]) := z2
        have hqi : q < ins.length := by rw [hl]; exact hql
        obtain ⟨r3, y1, y2⟩ := at_ q _ (List.getElem?_eq_getElem hqi)
        rw [g1] at y1
        cases y1
        have hm : s'.mut ∧ ∃ c0, ins[q] = .io q c0 := by
          unfold argM at y2
          rw [if_pos hq] at y2
          simp only [g3] at y2
          cases s' with
          | own c0 => exact ⟨trivial, c0, (Option.some.inj y2).symm⟩
          | io l c0 => exact ⟨trivial, c0, (Option.some.inj y2).symm⟩
          | _ => cases y2
        obtain ⟨hm, c0, hc0⟩ := hm
        obtain ⟨a, w1, w2, w3, _⟩ := R.mutAt g3 hm
        have hv : vs[q]? = some (.ref a) := by
          rw [List.getElem?_eq_getElem hql]
          rw [w1] at z2
          exact congrArg some (Option.some.inj (Option.some.inj z2)).symm
        have hA : ioA ins vs q = some a := ioA_is (by rw [List.getElem?_eq_getElem hqi, hc0]) hv
        have hkq : k' = q := by
          obtain ⟨c', y3, _⟩ := p.io q a hA
          rw [g2] at y3
          cases y3
          rfl
        subst hkq
        have ni : i ≠ env.length - 1 := hS.ne g3 fun M z => by cases s' with
          | own c => cases z
          | io k c => cases z
          | _ => cases hm
        refine ⟨List.length_set, by rw [List.getElem?_set_ne ni]; exact hS, fun j s hj => ?_⟩
        rcases set_get hj with ⟨rfl, rfl⟩ | ⟨hne, hj⟩
        · exact .inr ⟨k', a, c, s', hA, g2, g3, hm, rfl, w1⟩
        · refine .inl ⟨hj, fun k b e ms e2 => ?_⟩
          obtain ⟨x1, j2, t2, x2, x3, x4, x5⟩ := ioAt k b e
          rw [hq] at x1
          cases x1
          rw [hA] at e
          cases e
          exact hne (R.sep j i s s' a hj g3 ms hm e2 w1)
    obtain ⟨L1, L2, L3⟩ := he1
    have R2 : Cm.Rel K B (stoPut e1 M') σ Hk' H' := by
      have back : ∀ (j : Nat) s, (stoPut e1 M')[j]? = some s → (s = .sto M' ∧ j = env.length - 1) ∨ e1[j]? = some s := fun j s hj => by
        rcases set_get hj with ⟨z1, z2⟩ | ⟨_, hj⟩
        · exact .inl ⟨z2, by rw [z1, L1]⟩
        · exact .inr hj
      refine ⟨p.ex, R.kn.trans p.kn, fun a g1 g2 => ?_, fun a o g1 g2 => ?_, fun a g => ?_, R.o0, ?_, fun j s hj => ?_, fun i j s t a hi hj ms mt g1 g2 => ?_, fun M1 hM1 => ?_, fun n a g => ?_, fun j s a n hj ms g e => ?_⟩
      · by_cases z : Hk a = none
        · exact R.fresh0 (p.fr a g1 z)
        · exact R.fr a z g2
      · refine p.kp a o (R.kp a o g1 g2) (fun k e => ?_) fun n z hk => ?_
        · obtain ⟨_, j, t, _, x3, x4, x5⟩ := ioAt k a e
          obtain ⟨b, w1, _, _, w4⟩ := R.mutAt x3 x4
          rw [x5] at w1
          cases w1
          rcases w4 with w | w
          · rw [g1] at w; cases w
          · exact g2 w
        · rcases (R.pin n a z).2 hk with w | w
          · rw [g1] at w; cases w
          · exact g2 w
      · obtain ⟨w1, w2⟩ := R.oin a g
        refine ⟨?_, fresh a w1 w2⟩
        by_cases hk : ∃ k, ioA ins vs k = some a
        · obtain ⟨k, hk⟩ := hk
          obtain ⟨c', _, _, x, _⟩ := p.io k a hk
          obtain ⟨o, ho⟩ := x.there
          exact ne_none ho
        · by_cases hn : ∃ n, Hk.P n = some a
          · obtain ⟨n, hn⟩ := hn
            exact p.sto.pin n a (p.kn.p _ _ hn)
          · obtain ⟨o, ho⟩ := Option.ne_none_iff_exists'.mp w1
            exact ne_none (p.kp a o ho (fun k e => hk ⟨k, e⟩) fun n z => absurd ⟨n, z⟩ hn)
      · unfold stoPut
        rw [List.length_set, L1]
        exact R.len
      · rcases back j s hj with ⟨rfl, rfl⟩ | hj
        · obtain ⟨o, h1, _⟩ := R.slot _ _ hS
          exact ⟨o, h1, trivial⟩
        · rcases L3 j s hj with ⟨hj, hne⟩ | ⟨k, a, c, t, x1, x2, x3, x4, rfl, x6⟩
          · obtain ⟨o, w1, w2⟩ := R.slot j s hj
            refine ⟨o, w1, ?_⟩
            have cell : ∀ b c, o = some (.ref b) → s.mut → Hk b = none → CellAt K Hk H b c → Hk' b = none ∧ CellAt K Hk' H' b c := fun b c eo ms hk hc => by
              subst eo
              obtain ⟨u, hu⟩ := hc.there
              refine ⟨fresh b (ne_none hu) hk, hc.mono p.kn.s fun o z => p.kp b o z (fun k e => hne k b e ms w1) fun n z => absurd z (R.psep j s b n hj ms w1)⟩
            cases s with
            | no => trivial
            | sto M => trivial
            | pin k => exact w2
            | val d =>
              obtain ⟨v, e, q⟩ := w2
              exact ⟨v, e, dv_mono p.kn.s _ _ q⟩
            | pv x =>
              obtain ⟨v, e, q⟩ := w2
              exact ⟨v, e, q.mono p.kn⟩
            | scr ns =>
              obtain ⟨a, e, q⟩ := w2
              exact ⟨a, e, p.kn.s.seq q⟩
            | own c =>
              obtain ⟨b, e, q1, q2, q3⟩ := w2
              obtain ⟨z1, z2⟩ := cell b c e trivial q1 q3
              exact ⟨b, e, z1, q2, z2⟩
            | io l c =>
              obtain ⟨b, e, q1, q2, q3⟩ := w2
              obtain ⟨z1, z2⟩ := cell b c e trivial q1 q3
              exact ⟨b, e, z1, q2, z2⟩
          · obtain ⟨o, w1, w2⟩ := R.slot j t x3
            rw [x6] at w1
            cases w1
            refine ⟨_, x6, ?_⟩
            obtain ⟨c', y1, y2, y3, _⟩ := p.io k a x1
            rw [x2] at y1
            cases y1
            cases t with
            | own c0 =>
              obtain ⟨b, e, q1, q2, q3⟩ := w2
              cases e
              exact ⟨a, rfl, y2, q2, y3⟩
            | io l c0 =>
              obtain ⟨b, e, q1, q2, q3⟩ := w2
              cases e
              exact ⟨a, rfl, y2, q2, y3⟩
            | _ => cases x4
      · have orig : ∀ (j : Nat) s, (stoPut e1 M')[j]? = some s → s.mut → ∃ t, env[j]? = some t ∧ t.mut := fun j s hj ms => by
          rcases back j s hj with ⟨rfl, _⟩ | hj
          · cases ms
          · rcases L3 j s hj with ⟨hj, _⟩ | ⟨k, a, c, t, x1, x2, x3, x4, rfl, x6⟩
            · exact ⟨s, hj, ms⟩
            · exact ⟨t, x3, x4⟩
        obtain ⟨s2, y1, y2⟩ := orig i s hi ms
        obtain ⟨t2, y3, y4⟩ := orig j t hj mt
        exact R.sep i j s2 t2 a y1 y3 y2 y4 g1 g2
      · have : HasSto (stoPut e1 M') M' := HasSto.put (show HasSto e1 M by unfold HasSto; rw [L1]; exact L2) M'
        rw [hM1.uniq this]
        exact ⟨p.sto.cel, p.sto.inj, p.sto.top⟩
      · refine ⟨p.sto.pin n a g, fun z => ?_⟩
        cases hn : Hk.P n with
        | some b =>
          have := p.kn.p _ _ hn
          rw [g] at this
          cases this
          exact (R.pin n a hn).2 (p.kn.s.free z)
        | none => exact .inl (R.fresh0 (p.new n a g hn z))
      · have orig : ∃ t, env[j]? = some t ∧ t.mut := by
          rcases back j s hj with ⟨rfl, _⟩ | hj
          · cases ms
          · rcases L3 j s hj with ⟨hj, _⟩ | ⟨k, a, c, t, x1, x2, x3, x4, rfl, x6⟩
            · exact ⟨s, hj, ms⟩
            · exact ⟨t, x3, x4⟩
        obtain ⟨t, x1, x2⟩ := orig
        obtain ⟨b, w1, w2, ⟨o, ho⟩, _⟩ := R.mutAt x1 x2
        rw [g] at w1
        cases w1
        cases hn : Hk.P n with
        | some b =>
          have := p.kn.p _ _ hn
          rw [e] at this
          cases this
          exact R.psep j t a n x1 x2 g hn
        | none =>
          have := p.new n a e hn (fresh a (ne_none ho) w2)
          rw [ho] at this
          cases this
    refine k v Hk' H' R2 p.kn ?_
    cases r' with
    | dat d => exact hres
    | pv q => exact hres
    | slt i => cases hres
    | new c =>
      obtain ⟨a, rfl, q1, q2, q3, q4⟩ := hres
      refine ⟨a, rfl, q1, R.fresh0 q2, q3, q4, fun j s hj ms e => ?_⟩
      have := R2.mutAt hj ms
      obtain ⟨b, w1, w2, w3, w4⟩ := this
      rw [e] at w1
      cases w1
      have orig : ∃ t, env[j]? = some t ∧ t.mut := by
        rcases set_get hj with ⟨_, rfl⟩ | ⟨_, hj⟩
        · cases ms
        · rcases L3 j s hj with ⟨hj, _⟩ | ⟨k, a, c, t, x1, x2, x3, x4, rfl, x6⟩
          · exact ⟨s, hj, ms⟩
          · exact ⟨t, x3, x4⟩
      obtain ⟨t, x1, x2⟩ := orig
      exact R.mutNe q2 x1 x2 e
  · cases h
def mCallM (fm : FMM) (io : Option Nat) (ms : MA) : ME := fun env => (ms env).bind fun p => callM fm io p.1 p.2
theorem callM_run {fm : FMM} {io : Option Nat} {ms : MA} {Q : VK} (h : tE K (mCallM fm io ms) σ H Q) : tCall (spM K fm) [] E0 (tA K ms) σ H Q := by
  obtain ⟨B, env, Hk, res, env', R, hm, k⟩ := h
  obtain ⟨⟨rs, e1⟩, h1, hm⟩ := Option.bind_eq_some_iff.mp hm
  refine ⟨B, env, Hk, rs, e1, R, h1, fun vs Hk1 H1 R1 s1 o1 => ?_⟩
  show spM K fm (vs ++ []) H1 Q E0
  rw [List.append_nil]
  exact callM_ok R1 hm o1 fun v Hk' H' R' s' q => k v Hk' H' R' (s1.trans s') q
theorem ve_callM {k : Nat} {f : Addr} {fd : FuncData} {ps : List Str} {fm : FMM} {x : Str} {p pos : Pos} {e : Expr} {es : List Expr} {ms : MA} (io : Option Nat) (F : FnOk X.prog X.w X.K X.mg X.base CX0 k f fd ps (spM X.K fm)) (hr : Room k X.A) (hm : X.mg x = some (.ref f)) (hk : PySem.W.keepIn X.K (.ref f) = true) (hb : Binds X.K fd ps [])
    (ha : VA X (e :: es) ms) (hg : Gl X x := by rfl) (hdb : (x == ("__debug__" : Str)) = false := by decide) (he : starEach (e :: es) X.env = (false, eval e X.env) :: starEach es X.env := by rfl) (hpl : (backTo pos (starEach es X.env)).any (·.1) = false := by rfl) :
    VE X (.Call (.Name x p) (e :: es) [] pos) (mCallM fm io ms) := (pe_call F hr hg hm hk hb .nil pass0 ha hdb he hpl).imp fun _ _ _ => callM_run
end
end Cm
namespace Cm
open PySem L2
section
variable {β γ τ : Type} {env e e2 : Sl} {R : Option β} {m ma mb me mo mi : ME} {ms : MA} {i j : Nat} {M : List MC}
theorem c_nameP {K : Res → Sl → Option β} {p : PV} (h : env[i]? = some (.pv p)) (k : K (.pv p) env = R) : bnd (mName i env) K = R := by
  unfold mName; rw [h]; exact k
theorem c_setP {K : Fl → Sl → Option β} {p : PV} (hs : e.set i (.pv p) = e2) (k : K .nx e2 = R) : setK i (.pv p) e K = R := by
  subst hs; exact k
def inK (r : Res) (e : Sl) (K : Res → Sl → Option β) : Option β := (into (r, e)).bind fun q => K (.pv q.1) q.2
theorem c_in {K : Res → Sl → Option β} (k : bnd (m env) (fun r e => inK r e K) = R) : bnd (mIn m env) K = R := by
  rw [← k]; unfold mIn bnd inK
  cases m env with
  | none => rfl
  | some p =>
    cases p with
    | mk r e =>
      simp only [Option.bind_some]
      cases into (r, e) <;> rfl
theorem c_inP {K : Res → Sl → Option β} {p : PV} (k : K (.pv p) e = R) : inK (.pv p) e K = R := k
theorem c_inN {K : Res → Sl → Option β} {c : Cell} {h : γ → Option β} {k : List MC → Option γ} (M : List MC) (c' : MC) (E : List MC → Sl) (hM : e[e.length - 1]? = some (.sto M)) (hc : c.mc = c') (hE : ∀ M', stoPut e M' = E M') (p : ∀ M', K (.pv (.ref M.length)) (E M') = (k M').bind h) : inK (.new c) e K = ((some (M ++ [c'])).bind k).bind h := by
  subst hc
  unfold inK into
  simp only [hM, Option.bind_some, hE]
  exact p _
def pixK (r q : Res) (e : Sl) (K : Res → Sl → Option β) : Option β := (pvR r).bind fun x => match q with
  | .dat (.int i) => (x.ix (sto e) i).bind fun z => K (.pv z) e
  | _ => none
theorem c_pix {K : Res → Sl → Option β} (k : bnd (ma env) (fun r e => bnd (mb e) (fun q e => pixK r q e K)) = R) : bnd (mPix ma mb env) K = R := by
  rw [← k]; unfold mPix bnd pixK
  cases ma env with
  | none => rfl
  | some p =>
    simp only [Option.bind_some]
    cases mb p.2 with
    | none => rfl
    | some q =>
      simp only [Option.bind_some]
      cases pvR p.1 with
      | none => rfl
      | some x =>
        simp only [Option.bind_some]
        cases q with
        | mk r e =>
          cases r with
          | dat d =>
            cases d with
            | int i =>
              show ((x.ix (sto e) i).map fun z => (Res.pv z, e)).bind (fun p => K p.1 p.2) = (x.ix (sto e) i).bind fun z => K (.pv z) e
              cases x.ix (sto e) i <;> rfl
            | _ => rfl
          | _ => rfl
theorem c_pixK {K : Res → Sl → Option β} {r : Res} {x : PV} {i : Int} {h : γ → Option β} {k : PV → Option γ} (hr : pvR r = some x) (hM : sto e = M) (p : ∀ z, K (.pv z) e = (k z).bind h) : pixK r (.dat (.int i)) e K = ((PV.ix M x i).bind k).bind h := by
  subst hM
  unfold pixK
  rw [hr, Option.bind_some]
  show (x.ix (sto e) i).bind _ = _
  cases x.ix (sto e) i with
  | none => rfl
  | some z => exact p z
def pdxK (r q : Res) (e : Sl) (K : Res → Sl → Option β) : Option β := (pvR r).bind fun x => match q with
  | .dat d => (keyOf d).bind fun k => (x.dx (sto e) k).bind fun o => o.bind fun z => K (.pv z) e
  | _ => none
theorem c_pdx {K : Res → Sl → Option β} (k : bnd (ma env) (fun r e => bnd (mb e) (fun q e => pdxK r q e K)) = R) : bnd (mPdx ma mb env) K = R := by
  rw [← k]; unfold mPdx bnd pdxK
  cases ma env with
  | none => rfl
  | some p =>
    simp only [Option.bind_some]
    cases mb p.2 with
    | none => rfl
    | some q =>
      simp only [Option.bind_some]
      cases pvR p.1 with
      | none => rfl
      | some x =>
        simp only [Option.bind_some]
        cases q with
        | mk r e =>
          cases r with
          | dat d =>
            show ((keyOf d).bind fun k => (x.dx (sto e) k).bind fun o => o.map fun z => (Res.pv z, e)).bind (fun p => K p.1 p.2) = (keyOf d).bind fun k => (x.dx (sto e) k).bind fun o => o.bind fun z => K (.pv z) e
            cases keyOf d with
            | none => rfl
            | some k =>
              simp only [Option.bind_some]
              cases x.dx (sto e) k with
              | none => rfl
              | some o => cases o <;> rfl
          | _ => rfl
def pPdx (M : List MC) (x : PV) (d : PyData) : Option PV := (keyOf d).bind fun k => (x.dx M k).bind fun o => o
theorem c_pdxK {K : Res → Sl → Option β} {r : Res} {x : PV} {d : PyData} {h : γ → Option β} {k : PV → Option γ} (hr : pvR r = some x) (hM : sto e = M) (p : ∀ z, K (.pv z) e = (k z).bind h) : pdxK r (.dat d) e K = ((pPdx M x d).bind k).bind h := by
  subst hM
  unfold pdxK pPdx
  rw [hr, Option.bind_some]
  show ((keyOf d).bind fun k => (x.dx (sto e) k).bind fun o => o.bind fun z => K (.pv z) e) = _
  cases keyOf d with
  | none => rfl
  | some k =>
    simp only [Option.bind_some]
    cases x.dx (sto e) k with
    | none => rfl
    | some o =>
      cases o with
      | none => rfl
      | some z => exact p z
theorem fl_strs (l : List Str) : noLs (l.map eS) = true := by
  induction l with
  | nil => rfl
  | cons x l ih => exact ih
def psetDK (rx ro q : Res) (e : Sl) (K : Fl → Sl → Option β) : Option β := (pvR rx).bind fun px => (pvR ro).bind fun po => match q with
  | .dat d => (keyOf d).bind fun k => (setDP (sto e) po k px).bind fun M => K .nx (stoPut e M)
  | _ => none
theorem c_psetD {K : Fl → Sl → Option β} (k : bnd (mIn me env) (fun rx e => bnd (mo e) (fun ro e => bnd (mi e) (fun q e => psetDK rx ro q e K))) = R) : bnd (mPsetD me mo mi env) K = R := by
  rw [← k]; unfold mPsetD bnd psetDK
  cases mIn me env with
  | none => rfl
  | some x =>
    simp only [Option.bind_some]
    cases mo x.2 with
    | none => rfl
    | some o =>
      simp only [Option.bind_some]
      cases mi o.2 with
      | none => rfl
      | some q =>
        simp only [Option.bind_some]
        cases pvR x.1 with
        | none => rfl
        | some px =>
          simp only [Option.bind_some]
          cases pvR o.1 with
          | none => rfl
          | some po =>
            simp only [Option.bind_some]
            cases q with
            | mk r e =>
              cases r with
              | dat d =>
                show ((keyOf d).bind fun k => (setDP (sto e) po k px).map fun M => (Fl.nx, stoPut e M)).bind (fun p => K p.1 p.2) = (keyOf d).bind fun k => (setDP (sto e) po k px).bind fun M => K .nx (stoPut e M)
                cases keyOf d with
                | none => rfl
                | some k =>
                  simp only [Option.bind_some]
                  cases setDP (sto e) po k px <;> rfl
              | _ => rfl
theorem c_psetDK {K : Fl → Sl → Option β} {rx ro : Res} {x o : PV} {d : PyData} {h : γ → Option β} {k : List MC → Option γ} (E : List MC → Sl) (hx : pvR rx = some x) (ho : pvR ro = some o) (hM : sto e = M) (hE : ∀ M', stoPut e M' = E M') (p : ∀ M', K .nx (E M') = (k M').bind h) : psetDK rx ro (.dat d) e K = (((keyOf d).bind fun q => setDP M o q x).bind k).bind h := by
  subst hM
  unfold psetDK
  rw [hx, ho, Option.bind_some, Option.bind_some]
  show ((keyOf d).bind fun k => (setDP (sto e) o k x).bind fun M => K .nx (stoPut e M)) = _
  cases keyOf d with
  | none => rfl
  | some q =>
    simp only [Option.bind_some]
    cases setDP (sto e) o q x with
    | none => rfl
    | some M' =>
      show K .nx (stoPut e M') = _
      rw [hE]
      exact p M'
def pmK (g : GM) (x : PV) (rs : List Res) (e : Sl) (K : Res → Sl → Option β) : Option β := (pvRs rs).bind fun ps => (g (sto e) x ps).bind fun z => K (.pv z.1) (stoPut e z.2)
def pmK0 (g : GM) (ms : MA) (r : Res) (e : Sl) (K : Res → Sl → Option β) : Option β := (pvR r).bind fun x => if isLP (sto e) x = true then bnd (ms e) (fun rs e => pmK g x rs e K) else none
theorem c_pm {K : Res → Sl → Option β} {g : GM} (k : bnd (mo env) (fun r e => pmK0 g ms r e K) = R) : bnd (mPM g mo ms env) K = R := by
  rw [← k]; unfold mPM bnd pmK0 pmK
  cases mo env with
  | none => rfl
  | some o =>
    simp only [Option.bind_some]
    cases pvR o.1 with
    | none => rfl
    | some x =>
      simp only [Option.bind_some]
      by_cases hl : isLP (sto o.2) x = true
      · rw [if_pos hl, if_pos hl]
        cases hm : ms o.2 with
        | none => simp only [bnd, hm]; rfl
        | some p =>
          simp only [bnd, hm, Option.bind_some]
          cases pvRs p.1 with
          | none => rfl
          | some ps =>
            simp only [Option.bind_some]
            cases g (sto p.2) x ps <;> rfl
      · rw [if_neg hl, if_neg hl]; rfl
theorem c_pmK0 {K : Res → Sl → Option β} {g : GM} {r : Res} {x : PV} {h : γ → Option β} {k : Unit → Option γ} (hr : pvR r = some x) (hM : sto e = M) (p : ∀ u, bnd (ms e) (fun rs e => pmK g x rs e K) = (k u).bind h) : pmK0 g ms r e K = ((gd (isLP M x = true)).bind k).bind h := by
  subst hM
  unfold pmK0 gd
  rw [hr, Option.bind_some]
  by_cases hl : isLP (sto e) x = true
  · rw [if_pos hl, if_pos hl]; exact p ()
  · rw [if_neg hl, if_neg hl]; rfl
theorem c_pmK {K : Res → Sl → Option β} {g : GM} {x : PV} {rs : List Res} {h : γ → Option β} {k : PV × List MC → Option γ} (ps : List PV) (E : List MC → Sl) (hr : pvRs rs = some ps) (hM : sto e = M) (hE : ∀ M', stoPut e M' = E M') (p : ∀ z : PV × List MC, K (.pv z.1) (E z.2) = (k z).bind h) : pmK g x rs e K = ((g M x ps).bind k).bind h := by
  subst hM
  unfold pmK
  rw [hr, Option.bind_some]
  cases g (sto e) x ps with
  | none => rfl
  | some z =>
    show K (.pv z.1) (stoPut e z.2) = _
    rw [hE]
    exact p z
def plstK (rs : List Res) (e : Sl) (K : Res → Sl → Option β) : Option β := (pvRs rs).bind fun ps => match e[e.length - 1]? with
  | some (.sto M) => if ps.length ≤ 100000 then K (.pv (.ref M.length)) (stoPut e (M ++ [.lst ps])) else none
  | _ => none
theorem c_plst {K : Res → Sl → Option β} (k : bnd (ms env) (fun rs e => plstK rs e K) = R) : bnd (mPlst ms env) K = R := by
  rw [← k]; unfold mPlst bnd plstK
  cases ms env with
  | none => rfl
  | some p =>
    simp only [Option.bind_some]
    cases pvRs p.1 with
    | none => rfl
    | some ps =>
      simp only [Option.bind_some]
      cases p.2[p.2.length - 1]? with
      | none => rfl
      | some s =>
        cases s with
        | sto M =>
          simp only []
          by_cases hl : ps.length ≤ 100000
          · rw [if_pos hl, if_pos hl]; rfl
          · rw [if_neg hl, if_neg hl]; rfl
        | _ => rfl
theorem c_plstK {K : Res → Sl → Option β} {rs : List Res} {ps : List PV} {h : γ → Option β} {k : List MC → Option γ} (M : List MC) (E : List MC → Sl) (hr : pvRs rs = some ps) (hM : e[e.length - 1]? = some (.sto M)) (hl : ps.length ≤ 100000) (hE : ∀ M', stoPut e M' = E M') (p : ∀ M', K (.pv (.ref M.length)) (E M') = (k M').bind h) : plstK rs e K = ((some (M ++ [.lst ps])).bind k).bind h := by
  unfold plstK
  rw [hr, Option.bind_some, hM]
  simp only [if_pos hl, hE, Option.bind_some]
  exact p _
end
section
variable {β γ τ : Type} {env e : Sl} {R : Option β} {ms : MA} {fm : FMM} {io : Option Nat}
def callMK (fm : FMM) (io : Option Nat) (rs : List Res) (e : Sl) (K : Res → Sl → Option β) : Option β := (callM fm io rs e).bind fun q => K q.1 q.2
theorem c_callM {K : Res → Sl → Option β} (k : bnd (ms env) (fun rs e => callMK fm io rs e K) = R) : bnd (mCallM fm io ms env) K = R := by
  rw [← k]; unfold mCallM bnd callMK
  cases ms env <;> rfl
theorem c_callMK {K : Res → Sl → Option β} {rs : List Res} {ins : Sl} {Y : Option τ} {out : τ → Res × Sl × List MC} {bk : τ → Sl} {k : τ → Option γ} {h : γ → Option β} {M : List MC} (hM : e[e.length - 1]? = some (.sto M)) (h2 : argsM io e 0 rs = some ins) (q : fm M ins = Y.map out) (hb : ∀ z, (backV io e rs (out z).2.1).map (fun e2 => stoPut e2 (out z).2.2) = some (bk z)) (p : ∀ z, K (out z).1 (bk z) = (k z).bind h) : callMK fm io rs e K = (Y.bind k).bind h := by
  unfold callMK callM
  rw [hM]
  simp only [h2, Option.bind_some, q]
  cases Y with
  | none => rfl
  | some z =>
    simp only [Option.map_some, Option.bind_some]
    have := hb z
    cases hv : backV io e rs (out z).2.1 with
    | none => rw [hv] at this; cases this
    | some e2 =>
      rw [hv] at this
      simp only [Option.map_some, Option.some.injEq] at this
      simp only [Option.map_some, Option.bind_some, this]
      exact p z
end
section
theorem c_fmSt {τ : Type} {np n : Nat} {mb : MS} {ins : Sl} {Y : Option τ} {oR : τ → Res} {eR : τ → Sl} {out : τ → Res × Sl} (env : Sl) (h1 : ins.length = np) (h2 : (ins ++ List.replicate (n - np) Slot.no).set (n - 1) (.sto []) = env)
    (k : bnd (mb env) (fun f e => some (f, e)) = Y.bind fun z => some (.rt (oR z), eR z)) (h3 : ∀ z, finR (.rt (oR z), eR z) = some (out z).1) (h4 : ∀ z, ioKept ins (eR z) = true) (h5 : ∀ z, (eR z).take np = (out z).2) : fmSt np n mb ins = Y.map out := by
  have hk : mb env = Y.map fun z => (Fl.rt (oR z), eR z) := c_map k
  unfold fmSt
  rw [if_pos h1, h2, hk]
  cases Y with
  | none => rfl
  | some z =>
    simp only [Option.map_some, Option.bind_some, h3, h4, if_true, h5]
end
theorem fmSt_of {np n : Nat} {mb : MS} {ins outs env : Sl} {Y : Option (PV × List MC)} {eR : PV × List MC → Sl} (hb : mb env = Y.map fun z => (Fl.rt (.pv z.1), eR z)) (h1 : ins.length = np) (h2 : (ins ++ List.replicate (n - np) Slot.no).set (n - 1) (.sto []) = env)
    (h4 : ∀ z, ioKept ins (eR z) = true) (h5 : ∀ z, (eR z).take np = outs) (h6 : ∀ z, (eR z)[(eR z).length - 1]? = some (.sto z.2)) : fmSt np n mb ins = (Y.bind fun z => z.1.deep z.2 9).map fun d => (.dat d, outs) := by
  unfold fmSt
  rw [if_pos h1, h2, hb]
  cases Y with
  | none => rfl
  | some z =>
    have hs : sto (eR z) = z.2 := by unfold sto; rw [h6]
    simp only [Option.map_some, Option.bind_some, finR, hs]
    cases z.1.deep z.2 9 with
    | none => rfl
    | some d => simp only [Option.map_some, Option.bind_some, h4, if_true, h5]
section
variable {β : Type} {e : Sl} {R : Option β}
theorem c_frzSP {K : Res → Sl → Option β} {p : PV} (k : K (.pv p) e = R) : bnd (frzS (.pv p, e)) K = R := k
end
end Cm
namespace PySem.W
open PySem PySem.Spec PyProof.Rows
section
variable {prog : Program} {w : World} {A : Around} {E : Value → Shared → Prop} {s : Shared}
theorem min2_walk {a b : Value} {Q : Value → Shared → Prop}
    (h : wpAny (model prog w) A.in1 (pyIter (.ref s.heap.objs.size)) (fun it t => ∃ I fp wr G n P St H bt, it = .ref I ∧ WalksS prog w A.in1 I fp wr G n P St ∧ St 0 t ∧ (∀ c ∈ fp, c < t.heap.objs.size) ∧ 0 < n ∧ (∀ c o, H.get? c = some o → c ∉ wr) ∧ (∀ c o, H.get? c = some o → t.heap.get? c = some o) ∧ CmpIn prog w A.in1 .Lt H P bt ∧ ∀ v s', P (argBest bt (n - 1)) v → Moved wr G t s' → Q v s') E { s with heap := s.heap.push { cls := .type "tuple", data := .seq #[a, b] } }) :
    wpAny (model prog w) A (call (.builtin "min") [a, b]) Q E s := by
  have nm : (toString "min" ++ toString ".loop" : String) = "min.loop" := by decide
  have bp : Builtin.Builtins.bindParams "min" ["key", "default"] 0 ⟨[], []⟩ = pure [none, none] := rfl
  refine call_function_tree F.kind_min F.plain_min F.entry_min (F.args_min2 a b) ?_
  show wpAny _ A.in1 (Builtin.Builtins.bindParams "min" ["key", "default"] 0 ⟨[], []⟩ >>= _) _ E s
  refine wpAny_bind (wpAny_of_eq bp ?_)
  show wpAny _ A.in1 (newTuple [a, b] >>= _) _ E s
  refine wpAny_bind (wpAny_newObj_type (wpAny_bind (wpAny_mono h (fun it t ht => ?_) fun _ _ e => e)))
  obtain ⟨I, fp, wr, G, n, P, St, H, bt, rfl, W, st, fpl, n0, hw, kp, cm, hQ⟩ := ht
  have nf : t.heap.objs.size ∉ fp := fun q => absurd (fpl _ q) (Nat.lt_irrefl _)
  refine wpAny_bind (wpAny_newObj_type ?_)
  rw [nm]
  refine wpAny_pure ⟨plainId_quiet F.plain_min_loop _, codeAny_min_loop_firstH W H hw bt cm t.heap.objs.size nf (fresh_in kp) _ n0 (fun c o e => Heap.get?_push_of_some _ (kp c o e)) (W.frame 0 t _ t.toks st (Nat.le_refl _) fun c _ o e => Heap.get?_push_of_some _ e) (Heap.get?_push_size _ rfl) fun v s' q m => hQ v s' q (Moved.drop_new (tk := t.toks) m (Nat.le_refl _))⟩
theorem min2_data {a b : Value} {x y : PyData} {as : List Addr} {Q : Value → Shared → Prop} (hh : A.handled = none) (hr : ReadsAll s.heap [a, b] [x, y] as) (ha : AlikeAll [x, y]) (hu : A.units + 1 + PyData.depthAll [x, y] < cLine)
    (h : ∀ (i : Nat) v h' tk bs, [a, b][i]? = some v → Reads h' v (minD x [y]) bs → (∀ c o, s.heap.get? c = some o → h'.get? c = some o) → Q v { s with heap := h', toks := tk }) :
    wpAny (model prog w) A (call (.builtin "min") [a, b]) Q E s := by
  have hT : (s.heap.push { cls := .type "tuple", data := .seq #[a, b] }).IsTuple s.heap.objs.size #[a, b] := ⟨_, Heap.get?_push_size _ rfl, rfl, 0, rfl⟩
  have k0 : ∀ c o, s.heap.get? c = some o → (s.heap.push { cls := .type "tuple", data := .seq #[a, b] }).get? c = some o := fun c o e => Heap.get?_push_of_some _ e
  have hr1 : ReadsAll (s.heap.push { cls := .type "tuple", data := .seq #[a, b] }) (#[a, b] : Array Value).toList [x, y] as := PyProof.Rows.ReadsAll.keeps k0 hr
  refine min2_walk (iter_tupleW (A := A.in1) hh hT fun t e W st fpl hw hk => ?_)
  refine ⟨_, _, _, _, _, _, _, _, _, rfl, W, st, fpl, Nat.zero_lt_succ _, hw, hk, cmpIn_lt (A := A.in1) (s := { s with heap := s.heap.push { cls := .type "tuple", data := .seq #[a, b] } }) hr1 ha (by show A.units + 1 + _ < _; exact hu), fun v s' hP m => ?_⟩
  obtain ⟨h', tk, rfl, hk'⟩ := moved_old e rfl m
  obtain ⟨bs, r, _, _, _⟩ := readsAll_atA hr1 _ v hP
  have e2 := (argBest_fold dataLt PyData.none x [y] 1 (Nat.le_refl _)).2
  refine h _ v h' tk bs (by simpa using hP) (reads_keeps hk' ?_) fun c o q => hk' c o (k0 c o q)
  unfold minD
  rw [show ([y] : List PyData).take 1 = [y] from rfl] at e2
  rw [← e2]
  exact r
end
end PySem.W
namespace Cm
open PySem L2
section
variable {X : Cx} {K : PySem.W.Frag}
def rMin2 (K : PySem.W.Frag) : List V → Hp → VK → Prop := fun vs H Q => ∃ (x y : V) (d1 d2 : PyData), vs = [x, y] ∧ Dp K H x d1 ∧ Dp K H y d2 ∧ sortB [d1, d2] = true ∧ ∀ z, ((z = x ∧ d1 = PySem.W.minD d1 [d2]) ∨ (z = y ∧ d2 = PySem.W.minD d1 [d2])) → Q z H
theorem cr_min2 (hc : X.calm = true) (hu : X.A.units + 64 < cLine) : CallR X (.builtin "min") (rMin2 X.K) := by
  intro pins s σ H vs us Q I r h
  obtain ⟨x, y, d1, d2, rfl, p1, p2, hb, q⟩ := h
  obtain ⟨u, v, rfl, r1, r2⟩ := vals2 r
  obtain ⟨b1, b2, b3, b4⟩ := sort_of hb
  obtain ⟨as1, rd1⟩ := Dp.reads I _ _ _ p1 r1
  obtain ⟨as2, rd2⟩ := Dp.reads I _ _ _ p2 r2
  have hdep := depthAll_le (k := 60) fun d hd => (b3 d hd).2
  refine PySem.W.min2_data (I.ok.hd hc) (.cons rd1 (.cons rd2 .nil)) (sort_alike hb) (by omega) fun i z h' tk bs hz hr hk => ?_
  cases i with
  | zero =>
    cases hz
    have e := (Reads.unique (PySem.W.reads_keeps hk rd1) _ _ hr).1
    exact ⟨_, H, I.kept hk, r1, q x (.inl ⟨rfl, e⟩)⟩
  | succ i =>
    cases i with
    | zero =>
      cases hz
      have e := (Reads.unique (PySem.W.reads_keeps hk rd2) _ _ hr).1
      exact ⟨_, H, I.kept hk, r2, q y (.inr ⟨rfl, e⟩)⟩
    | succ i => simp at hz
def mMin2 (ms : MA) : ME := fun env => (ms env).bind fun p => match p.1 with
  | [.dat d1, .dat d2] => if sortB [d1, d2] = true then some (.dat (PySem.W.minD d1 [d2]), p.2) else none
  | _ => none
theorem min2_run {ms : MA} {σ : L2.St} {H : Hp} {Q : VK} (h : tE K (mMin2 ms) σ H Q) : tCB (rMin2 K) (tA K ms) σ H Q := by
  obtain ⟨B, env, Hk, res, env', R, hm, k⟩ := h
  obtain ⟨⟨rs, e1⟩, h1, hm⟩ := Option.bind_eq_some_iff.mp hm
  dsimp only at hm
  split at hm
  · rename_i d1 d2
    split at hm
    · rename_i hb
      cases hm
      refine ⟨B, env, Hk, _, _, R, h1, fun vs Hk1 H1 R1 s1 o1 => ?_⟩
      cases o1 with
      | cons o1 o2 =>
        cases o2 with
        | cons o2 o3 =>
          cases o3
          have v1 : Dv K Hk1.k _ d1 := o1
          have v2 : Dv K Hk1.k _ d2 := o2
          obtain ⟨c1, c2, c3, c4⟩ := sort_of hb
          have w12 : DvAll K H1 [_, _] [d1, d2] := dvAll_mono R1.ex _ _ (.cons v1 (.cons v2 .nil))
          have dp := w12.dp _ _ (canLayAll_of fun d hd => (c3 d hd).1)
          cases dp with
          | cons p1 p2 =>
            cases p2 with
            | cons p2 p3 =>
              refine ⟨_, _, d1, d2, rfl, p1, p2, hb, fun z hz => ?_⟩
              rcases hz with ⟨rfl, e⟩ | ⟨rfl, e⟩
              · exact k _ Hk1 H1 R1 s1 (show Dv K Hk1.k _ (PySem.W.minD d1 [d2]) from e ▸ v1)
              · exact k _ Hk1 H1 R1 s1 (show Dv K Hk1.k _ (PySem.W.minD d1 [d2]) from e ▸ v2)
    · cases hm
  · cases hm
theorem ve_min2 {e e2 : Expr} {ms : MA} {x : Str} {p pos : Pos} (hc : X.calm = true) (hu : X.A.units + 64 < cLine) (hg : Gl X x) (hm : X.mg x = none) (hv : bootBuiltins x = some (.builtin "min")) (ha : VA X [e, e2] ms) (hn : x ≠ "__name__" := by decide) (hdb : (x == ("__debug__" : Str)) = false := by decide)
    (he : starEach [e, e2] X.env = (false, eval e X.env) :: starEach [e2] X.env := by rfl) (hpl : (backTo pos (starEach [e2] X.env)).any (·.1) = false := by rfl) : VE X (.Call (.Name x p) [e, e2] [] pos) (mMin2 ms) :=
  (pe_callB (cr_min2 hc hu) hg hm hv ha hn hdb he hpl).imp fun _ _ _ => min2_run
end
def pMin2 {α : Type} (e : α → PyData) (a b : α) : Option α := if sortB [e a, e b] = true then some (if PySem.W.dataLt (e b) (e a) then b else a) else none
section
variable {β γ : Type} {ms : MA} {env e : Sl} {rs : List Res} {K : Res → Sl → Option β} {R : Option β}
def min2K (rs : List Res) (e : Sl) (K : Res → Sl → Option β) : Option β := match rs with
  | [.dat d1, .dat d2] => if sortB [d1, d2] = true then K (.dat (PySem.W.minD d1 [d2])) e else none
  | _ => none
theorem c_min2 (k : bnd (ms env) (fun rs e => min2K rs e K) = R) : bnd (mMin2 ms env) K = R := by
  rw [← k]
  unfold mMin2 min2K
  cases ms env with
  | none => rfl
  | some p =>
    obtain ⟨rs, e⟩ := p
    rcases rs with _ | ⟨r1, _ | ⟨r2, _ | ⟨r3, rs⟩⟩⟩
    · rfl
    · cases r1 <;> rfl
    · cases r1 with
      | dat d1 =>
        cases r2 with
        | dat d2 =>
          show bnd (if sortB [d1, d2] = true then some (Res.dat (PySem.W.minD d1 [d2]), e) else none) K = if sortB [d1, d2] = true then K (.dat (PySem.W.minD d1 [d2])) e else none
          by_cases hb : sortB [d1, d2] = true
          · rw [if_pos hb, if_pos hb]
            rfl
          · rw [if_neg hb, if_neg hb]
            rfl
        | _ => rfl
      | _ => rfl
    · cases r1 <;> first | rfl | (cases r2 <;> rfl)
theorem c_min2K {α : Type} {ea : α → PyData} {a b : α} {rs : List Res} {k : α → Option γ} {h : γ → Option β} (hr : rs = [.dat (ea a), .dat (ea b)]) (p : ∀ z, K (.dat (ea z)) e = (k z).bind h) : min2K rs e K = ((pMin2 ea a b).bind k).bind h := by
  subst hr
  unfold min2K pMin2
  dsimp only
  by_cases hb : sortB [ea a, ea b] = true
  · rw [if_pos hb, if_pos hb, Option.bind_some, ← p]
    congr 2
    show PySem.W.minD (ea a) [ea b] = _
    unfold PySem.W.minD
    simp only [List.foldl_cons, List.foldl_nil]
    split <;> rfl
  · rw [if_neg hb, if_neg hb]
    rfl
end
def decS : Dec eS := ⟨fun d => match d with
  | .str i => some i
  | _ => none, fun d x h => by
    cases d <;> cases h
    rfl, fun _ => rfl⟩
def decD : Dec eD := ⟨some, fun d x h => by cases h; rfl, fun _ => rfl⟩
section
variable {α β γ δ ε : Type} {a : α → PyData} {b : β → PyData} {c : γ → PyData} {d : δ → PyData} {e : ε → PyData}
theorem dec_all (A : Dec a) : ∀ (ds : List PyData) (xs : List α), mapO A.f ds = some xs → xs.map a = ds
  | [], xs, h => by cases h; rfl
  | y :: ds, xs, h => by
    obtain ⟨z, h1, h2⟩ := Option.bind_eq_some_iff.mp (show (A.f y).bind _ = some xs from h)
    obtain ⟨zs, h3, rfl⟩ := Option.map_eq_some_iff.mp h2
    rw [List.map_cons, A.snd _ _ h1, dec_all A ds zs h3]
theorem dec_map (A : Dec a) : ∀ xs : List α, mapO A.f (xs.map a) = some xs
  | [] => rfl
  | x :: xs => by
    show (A.f (a x)).bind _ = _
    rw [A.cmp, Option.bind_some, dec_map A xs]
    rfl
def decL (A : Dec a) : Dec (eL a) := ⟨fun y => match y with
  | .list ds => mapO A.f ds
  | _ => none, fun y x h => by
    cases y with
    | list ds => exact congrArg PyData.list (dec_all A ds x h)
    | _ => (cases h), fun x => dec_map A x⟩
end
section
variable {X : Cx} {K : PySem.W.Frag} {α β γ τ : Type} {js is : List Nat}
theorem fmM_ofG {np n : Nat} {mb : MS} {M : List MC} {ins : Sl} {Y : Option τ} {fl : τ → Fl} {pr : τ → Res} {ms : τ → List MC} {eR outs : τ → Sl} {env : Sl} (hb : mb env = Y.map fun z => (fl z, eR z)) (hp : ∀ z, finM (fl z, eR z) = some (pr z)) (h1 : ins.length = np) (h2 : (ins ++ List.replicate (n - np) Slot.no).set (n - 1) (.sto M) = env)
    (h4 : ∀ z, ioKept ins (eR z) = true) (h5 : ∀ z, (eR z).take np = outs z) (h6 : ∀ z, (eR z)[(eR z).length - 1]? = some (.sto (ms z))) : fmM np n mb M ins = Y.map fun z => (pr z, outs z, ms z) := by
  unfold fmM
  rw [if_pos h1, h2, hb]
  cases Y with
  | none => rfl
  | some z =>
    simp only [Option.map_some, Option.bind_some, hp, h4, if_true, h5, h6]
end
def mTake (i : Nat) : ME := fun env => match env[i]? with
  | some (.own c) => some (.new c, env.set i .no)
  | _ => none
section
variable {X : Cx} {K : PySem.W.Frag}
theorem take_run {i : Nat} {σ : L2.St} {H : Hp} {Q : VK} (h : tE K (mTake i) σ H Q) : tVar i σ H Q := by
  obtain ⟨B, env, Hk, r, env', R, hm, k⟩ := h
  unfold mTake at hm
  split at hm
  · rename_i c hc
    cases hm
    obtain ⟨o, h1, a, rfl, q1, q2, qc⟩ := R.slot i _ hc
    refine ⟨_, h1, k _ Hk H (R.wipe1 i) (.refl _) ⟨a, rfl, q1, q2, qc, fun n => R.psep i _ a n hc trivial h1, fun j s hj hm e => ?_⟩⟩
    rcases set_get hj with ⟨_, rfl⟩ | ⟨ne, hj⟩
    · exact hm
    · exact ne (R.sep j i s _ a hj hc hm trivial e h1)
  · cases hm
theorem ve_take (i : Nat) {x : Str} {pos : Pos} (hN : X.N[i]? = some x := by rfl) (hv : Vis X.env.scope x := by first | exact Or.inl rfl | exact Or.inr (Or.inl rfl) | exact Or.inr (Or.inr rfl)) (hd : (x == ("__debug__" : Str)) = false := by decide)
    (hcd : (x == ("__classdict__" : Str)) = false := by decide) : VE X (.Name x pos) (mTake i) := (pe_var hN hv hd hcd).imp fun _ _ _ => take_run
end
theorem c_take {β : Type} {i : Nat} {c : Cell} {env e2 : Sl} {K : Res → Sl → Option β} {R : Option β} (h : env[i]? = some (.own c)) (hs : env.set i .no = e2) (k : K (.new c) e2 = R) : bnd (mTake i env) K = R := by
  subst hs
  unfold mTake
  rw [h]
  exact k
end Cm
namespace Cm
open PySem PySem.Spec PyProof.Rows L2
section
variable {P : Program} {w : World} {A : Around} {E : Value → Shared → Prop} {s : Shared} {a : Addr} {es : Array (Int × Value)} {t : SetTable} {ps : List (Str × Tok)}
theorem TabT.off (R : TabT w es t ps) : TabT w es { t with plain := false } ps := ⟨R.cells, SetTable.fits_plain_off R.fits, R.ris, R.led⟩
end
end Cm
namespace Cm
open PySem PySem.Calls PyProof.Rows L2
open PySem.W (EachIs SortsAt KeyedOut KeepsBut AllAlike Sortable alike sortVals keyH_end keyedOut_each bound_map copyHeap copyHeap_at copyHeap_old sorted_of_sort)
section
variable {P : Program} {w : World} {A : Around} {E : Value → Shared → Prop} {s : Shared} {a kS N : Addr} {e1 : Nat} {R : PySem.Fin → Shared → Prop} {v : Value} {d : PyData}
theorem keysL {h₁ : Heap} {kz : List PyData} {vs : List Value} {f : Value} (kp : KeepsBut a h₁ s.heap) (hN : N ≤ kS) (hka : kS ≠ a) (hkS : h₁.get? kS = none) (at1 : s.heap.get? kS = some (seqObj "list" #[] 0)) (at2 : s.heap.get? a = some (seqObj "list" #[] e1)) (hlen : kz.length = vs.length)
    (hZ : vs.length ≤ sizeLine) (hal : AllAlike kz) (hsk : Sortable kz) (hu : ∀ d, d ∈ kz → A.units + d.depth < cLine)
    (turn : ∀ (i : Nat) (v : Value) (k : PyData), vs[i]? = some v → kz[i]? = some k → ∀ (h : Heap) (tk : Nat), KeepsBut a h₁ h → wpAny (model P w) A (call f [v]) (KeyLow N k { s with heap := h, toks := tk }) (fun _ _ => False) { s with heap := h, toks := tk })
    (q : ∀ h' tk out c, KeepsBut a h₁ h' → h'.get? a = some (seqObj "list" (List.toArray out) c) → KeyedOut false kz vs out → R (.done (.ret .none)) { s with heap := h', toks := tk }) :
    wpAny (model P w) A (ksk_rest a f false vs.toArray e1 (.ref kS)) R E s := by
  unfold ksk_rest
  apply wpAny_bind
  apply wpAny_rule
  rw [List.forIn_toArray]
  apply wpAny_bind
  refine ksk_fold (Gath N a kS e1 h₁ kz s) vs 0 s ⟨s.heap, s.toks, #[], 0, rfl, kp, at1, at2, .nil⟩ (fun j x s' hx I => ?_) fun s' I => ?_
  · rw [Nat.zero_add] at I ⊢
    have hj := (List.getElem?_eq_some_iff.mp hx).1
    refine Gath.turn (vs := vs) (Q := fun r s'' => r = .yield ⟨⟩ ∧ Gath N a kS e1 h₁ kz s (j + 1) s'') hN hka hkS hal (by omega) (by omega) I (fun k hk => turn j x k hx hk) fun s'' I2 => ⟨rfl, I2⟩
  · obtain ⟨h', tk, kA, e, rfl, kp2, at3, at4, got⟩ := I
    rw [Nat.zero_add, List.take_of_length_le (by omega)] at got
    have many : kA.size = vs.length := by
      have := got.length
      rw [Array.length_toList] at this
      omega
    have rd : EachIs (fun v k => ∃ as, Reads h' v k as) kA.toList kz := got.mono fun v k l => l.imp fun as q => q.1
    apply wpAny_bind
    refine listItems_at at3 rfl (keyH_end (κ := PySem.W.dataKind h' kz) (h₁ := h₁) kp2 hkS at3 at4 hka (SortsAt.data (s := { s with heap := h', toks := tk }) rd hal hsk hu) many hZ fun h3 tk3 c k3 n3 => ?_)
    exact q h3 tk3 _ c k3 n3 ⟨h', kA.toList, hal, rfl, rd⟩
theorem treeL {f : Value} {n : Nat} {kz : List PyData} {vs : List Value} (lies : s.heap.get? a = some (seqObj "list" vs.toArray n)) (hN : N ≤ s.heap.objs.size) (hlen : kz.length = vs.length) (hZ : vs.length ≤ sizeLine) (hal : AllAlike kz) (hsk : Sortable kz) (hu : ∀ d, d ∈ kz → A.units + d.depth < cLine)
    (turn : ∀ (i : Nat) (v : Value) (k : PyData), vs[i]? = some v → kz[i]? = some k → ∀ (h : Heap) (tk : Nat), KeepsBut a s.heap h → wpAny (model P w) A (call f [v]) (KeyLow N k { s with heap := h, toks := tk }) (fun _ _ => False) { s with heap := h, toks := tk })
    (q : ∀ h' tk out c, KeepsBut a s.heap h' → h'.get? a = some (seqObj "list" (List.toArray out) c) → KeyedOut false kz vs out → R (.done (.ret .none)) { s with heap := h', toks := tk }) :
    wpAny (model P w) A (ksk_tree a f false) R E s := by
  have inn : a < s.heap.objs.size := Heap.lt_size lies
  have emptied := get?_update_seq lies fun _ => (#[] : Array Value)
  have grown : ((s.heap.update a (Obj.mapSeq fun _ => (#[] : Array Value))).push (seqObj "tuple" vs.toArray 0)).objs.size = s.heap.objs.size + 1 := by rw [size_push', Heap.size_update]
  have still : KeepsBut a s.heap (PySem.W.sortingHeap s.heap a vs) := fun b o hb e => PySem.W.sortingHeap_old hb e
  unfold ksk_tree
  apply wpAny_bind
  refine listItems_at lies rfl ?_
  apply wpAny_bind
  refine listUpdate_at lies rfl ?_ (by rw [List.size_toArray]; exact hZ) (Nat.zero_le _)
  apply wpAny_bind
  refine seqEpoch_at emptied rfl ?_
  apply wpAny_bind
  refine wpAny_newTuple ?_ (show vs.length ≤ _ from hZ)
  apply wpAny_bind
  refine wpAny_newList ?_ (Nat.zero_le _)
  apply wpAny_holding
  refine keysL (N := N) (kz := kz) (h₁ := s.heap) (s := { s with heap := ((s.heap.update a (Obj.mapSeq fun _ => (#[] : Array Value))).push (seqObj "tuple" vs.toArray 0)).push (seqObj "list" #[] 0) })
    (kS := ((s.heap.update a (Obj.mapSeq fun _ => (#[] : Array Value))).push (seqObj "tuple" vs.toArray 0)).objs.size) still (by rw [grown]; exact Nat.le_succ_of_le hN) (by rw [grown]; exact Nat.ne_of_gt (Nat.lt_succ_of_lt inn))
    (Heap.get?_none_of_le (by rw [grown]; exact Nat.le_succ _)) (Heap.get?_push_size _ rfl) (Heap.get?_push_of_some _ (Heap.get?_push_of_some _ emptied)) hlen hZ hal hsk hu turn q
theorem sorted_low {β : Type} {vs : List Value} {bs : List β} {Rl : Value → β → Prop} {l : Addr} {f : Value} {kw : List (Str × Value)} {Q : Value → Shared → Prop} (k : β → PyData) (hl : s.heap.IsList l vs.toArray) (e : EachIs Rl vs bs) (hal : AllAlike (bs.map k)) (hsk : Sortable (bs.map k)) (hL : bs.length ≤ sizeLine)
    (hu : ∀ x, x ∈ bs → A.units + 2 + (k x).depth < cLine) (ha1 : argsOk "sorted" ⟨[.ref l], kw⟩) (ha2 : ∀ x, argsOk "list.sort" ⟨[.ref x], kw⟩) (ht : ∀ x, Builtin.«list.sort» ⟨[.ref x], kw⟩ = ksk_tree x f false)
    (turn : ∀ (v : Value) (x : β), Rl v x → x ∈ bs → ∀ (h : Heap) (tk : Nat), (∀ b o, s.heap.get? b = some o → h.get? b = some o) → wpAny (model P w) A.in1.in1 (call f [v]) (KeyLow s.heap.objs.size (k x) { s with heap := h, toks := tk }) (fun _ _ => False) { s with heap := h, toks := tk })
    (q : ∀ out c h' tk, (∀ b o, s.heap.get? b = some o → h'.get? b = some o) → h'.get? (s.heap.objs.size + 1) = some (seqObj "list" (List.toArray out) c) → EachIs Rl out (bs.mergeSort (PySem.W.dataLe false k)) → Q (.ref (s.heap.objs.size + 1)) { s with heap := h', toks := tk }) :
    wpAny (model P w) A (call (.builtin "sorted") [.ref l] kw) Q E s := by
  have el := e.length
  have up : ∀ {g : Heap}, KeepsBut (s.heap.objs.size + 1) (copyHeap s.heap vs) g → ∀ b o, s.heap.get? b = some o → g.get? b = some o := by
    intro g kp b o lies
    exact kp b o (Nat.ne_of_lt (Nat.lt_succ_of_lt (Heap.lt_size lies))) (copyHeap_old lies)
  have wide : s.heap.objs.size ≤ (copyHeap s.heap vs).objs.size := by
    have := Heap.lt_size (copyHeap_at s.heap vs)
    exact Nat.le_of_lt (Nat.lt_of_succ_lt this)
  refine sorted_of_sort hl (by rw [el]; exact hL) ha1 ha2 fun E' => ?_
  rw [ht]
  refine treeL (N := s.heap.objs.size) (kz := bs.map k) (s := { s with heap := copyHeap s.heap vs }) (copyHeap_at s.heap vs) wide (by rw [List.length_map, el]) (by rw [el]; exact hL) hal hsk (bound_map (A := A.in1.in1) hu) (fun i v d hv hd h tk kp => ?_)
    fun h' tk out c kp at' ko => ⟨rfl, q out c h' tk (up kp) at' (keyedOut_each k ko e)⟩
  rw [List.getElem?_map] at hd
  obtain ⟨x, hx, rfl⟩ := Option.map_eq_some_iff.mp hd
  have both : (v, x) ∈ vs.zip bs := List.mem_of_getElem? (i := i) (by rw [List.getElem?_zip_eq_some]; exact ⟨hv, hx⟩)
  exact turn v x (e.zip _ both) (List.mem_of_getElem? hx) h tk (up kp)
end
end Cm
namespace Cm
open PySem PySem.Calls PyProof.Rows L2
theorem rank_call {P : Program} {w : World} {K : PySem.W.Frag} {mg : Str → Option Value} {base : Heap} {name qual x : Str} {params : Arguments} {scope : Scope} {f : Addr} {fd : FuncData} {p p1 p2 p3 p4 p5 : Pos} {x1} {A : Around} {E : Value → Shared → Prop} {s : Shared} {u : Value} {ds : List PyData} {as : List Addr} {N : Addr}
    (F : FunD K name qual params [.Return (some (.Tuple [.Call (.Name "len" p1) [.Name x p2] [] p3, .Name x p4] x1 p5)) p] scope [] [] f fd) (S : FnScope [x] [x] scope) (hb : ∀ (kV doc pm : Value) (an : Option Addr) (cdv ct : Value), bindArgs (PySem.W.fnOf name qual params [.Return (some (.Tuple [.Call (.Name "len" p1) [.Name x p2] [] p3, .Name x p4] x1 p5)) p] scope .none kV doc pm an cdv ct) ⟨[u], []⟩ = pure [(x, u)])
    (hc : ∀ y ∈ scope.names, y.2 ≠ .cell) (hlen : scope.names.lookup ("len" : Str) = some .globalImplicit) (M : Mod K mg base) (bk : ∀ b o, base.get? b = some o → s.heap.get? b = some o) (hm : mg "len" = none) (hr : A.depth < recursionLimit)
    (hd : Reads s.heap u (.list ds) as) (low : ∀ y ∈ as, y < N) (few : ds.length ≤ 100000) (hdb : (x == ("__debug__" : Str)) = false) :
    wpAny (model P w) A (call (.ref f) [u]) (KeyLow N (.tuple [.int ds.length, .list ds]) s) E s := by
  have KX := M.kin.keeps bk
  obtain ⟨oc, od, dV, kV, doc, pm, an, cdv, ct, osl, rfl, lk, hcd, hD, _⟩ := F.ex
  obtain rfl : dV = .none := by
    rcases hD with ⟨_, e⟩ | ⟨e, _⟩
    · exact e
    · exact absurd rfl e
  have hl : scope.names.lookup x = some .local := by
    rcases S.par x List.mem_cons_self with h | h
    · exact h
    · exact absurd rfl (hc _ (PySem.mem_of_lookup h))
  refine wpAny_call (codeAny_call_straight hr (KX _ _ lk) rfl (M.nolimit.keeps bk) (PySem.W.codeRec_of KX hcd) rfl (hb _ _ _ _ _ _) hc (fun y hy => ?_) (fun s1 I => ?_) S.co S.gen S.kind)
  · rw [List.mem_singleton] at hy
    rw [hy]
    exact hl
  · refine wpAny_execs_cons (wpAny_Return_some ?_)
    obtain ⟨mb, b1, b2⟩ := M.blt
    have up : ∀ b o, base.get? b = some o → s1.heap.get? b = some o := fun b o e => I.keep b o (bk b o e)
    cases hd with
    | @list l o vs n _ as' g1 g2 g3 g4 =>
      have many : vs.size = ds.length := by
        have := readsAll_len0 g4
        rwa [Array.length_toList] at this
      have name_at : ∀ {A' : Around} {E' : Value → Shared → Prop} {s' : Shared} {pos : Pos} {Q : Value → Shared → Prop}, InCall s s.heap.objs.size (fun y => [(x, Value.ref l)].reverse.lookup y) s' → Q (.ref l) s' →
          wpAny (model P w) A' (eval (.Name x pos) (callEnv (PySem.W.fnOf name qual params [.Return (some (.Tuple [.Call (.Name "len" p1) [.Name x p2] [] p3, .Name x p4] x1 p5)) p] scope .none kV doc pm an cdv ct) s.heap.objs.size f)) Q E' s' := fun I' q =>
        wpAny_Name (wpAny_loadName_local S.kind hl I'.ns (by simp) q) hdb
      refine wpAny_Tuple_spliced ?_
      show wpAny _ _ (spliced [(false, eval (.Call (.Name "len" p1) [.Name x p2] [] p3) _), (false, eval (.Name x p4) _)]) _ _ _
      refine Calls.spliced_cons (Call_ (Calls.Name_function_global S.kind hlen (Calls.loadGlobal_builtin (M.glob.keeps up) hm (b1.keeps up) ((b2 "len" (by decide)).trans boot_len) ?_)))
      refine PyProof.Rows.callWith_builtin1 (PyProof.Rows.args_cons (name_at I (PyProof.Rows.args_nil ?_)) rfl) rfl rfl
      refine call_len_list ⟨o, I.keep _ _ g1, g2, n, g3⟩ (by rw [many]; omega) ?_
      refine Calls.spliced_cons (name_at ((I.tok _).tok _) (Calls.spliced_nil ⟨by show 2 ≤ sizeLine; decide, ?_⟩))
      obtain ⟨h', tk, e', keep⟩ := (inCall_push ((I.tok (s1.toks + 1)).tok (s1.toks + 1 + 1)) { cls := .type "tuple", data := .seq #[.int vs.size (s1.toks + 1), .ref l] }).done
      refine ⟨h', tk, e', keep, _, ?_, low⟩
      have eh : s1.heap.push { cls := .type "tuple", data := .seq #[.int vs.size (s1.toks + 1), .ref l] } = h' := congrArg Shared.heap e'
      have r0 : Reads s.heap (.ref l) (.list ds) (l :: as') := .list g1 g2 g3 g4
      have r1 : Reads h' (.ref l) (.list ds) (l :: as') := PyProof.Rows.Reads.keeps keep r0
      have r2 : Reads h' (.ref s1.heap.objs.size) (.tuple [.int vs.size, .list ds]) ([] ++ ((l :: as') ++ [])) := .tuple (by rw [← eh]; exact Heap.get?_push_size _ rfl) rfl rfl (.cons (.int _ _) (.cons r1 .nil))
      rw [List.nil_append, List.append_nil, many] at r2
      exact r2
section
variable {X : Cx} {K : PySem.W.Frag} {B : Fb} {env : Sl} {σ : L2.St} {Hk H : Hp}
def rankD : PyData → Option PyData
  | .list ds => if ds.length ≤ 100000 then some (.tuple [.int ds.length, .list ds]) else none
  | _ => none
def rSortRk (K : PySem.W.Frag) (f : Addr) : List V → List V → Hp → VK → Prop := fun vs zs H Q => ∃ (a : Addr) (xs : List V) (ds ks : List PyData), vs = [V.ref a] ∧ zs = [V.ref f] ∧ SqL K H a xs ∧ DvAll K H xs ds ∧ PyData.canLayAll0 ds = true ∧ keysBy rankD ds = some ks ∧ sortB ks = true ∧
  ∀ p : Addr, H p = none → Q (.ref p) (upd H p (.lst (((xs.zip (ds.zip ks)).mergeSort (PySem.W.dataLe false (fun b : V × PyData × PyData => b.2.2))).map (·.1))))
theorem canLay_mem : ∀ {ds : List PyData}, PyData.canLayAll0 ds = true → ∀ d ∈ ds, d.canLay0 = true
  | [], _, d, h => by simp at h
  | d' :: ds, hn, d, h => by
    have hn : d'.canLay0 = true ∧ PyData.canLayAll0 ds = true := by simpa [PyData.canLayAll0] using hn
    rcases List.mem_cons.mp h with rfl | h
    · exact hn.1
    · exact canLay_mem hn.2 d h
theorem cr_sortRk {name qual x : Str} {params : Arguments} {scope : Scope} {f : Addr} {fd : FuncData} {p p1 p2 p3 p4 p5 : Pos} {x1} {k : Nat}
    (F : FunD X.K name qual params [.Return (some (.Tuple [.Call (.Name "len" p1) [.Name x p2] [] p3, .Name x p4] x1 p5)) p] scope [] [] f fd) (S : FnScope [x] [x] scope)
    (hb : ∀ (u kV doc pm : Value) (an : Option Addr) (cdv ct : Value), bindArgs (PySem.W.fnOf name qual params [.Return (some (.Tuple [.Call (.Name "len" p1) [.Name x p2] [] p3, .Name x p4] x1 p5)) p] scope .none kV doc pm an cdv ct) ⟨[u], []⟩ = pure [(x, u)])
    (hc : ∀ y ∈ scope.names, y.2 ≠ .cell) (hlen : scope.names.lookup ("len" : Str) = some .globalImplicit) (hm : X.mg "len" = none) (hdb : (x == ("__debug__" : Str)) = false) (hr : Room k X.A) : CallRK X (.builtin "sorted") [Str.ofString "key"] (rSortRk X.K f) := by
  intro pins s σ H vs zs us ws Q I r rz h
  obtain ⟨a, xs, ds, ks, rfl, rfl, hs, hd, hn, hk, hsb, q⟩ := h
  obtain rfl := Vals.ref1 r
  obtain rfl := Vals.ref1 rz
  obtain ⟨its, rv, hl, hz⟩ := I.list hs
  obtain ⟨b1, b2, b3, b4⟩ := sort_of hsb
  have l1 := hd.len
  have l2 := keysBy_len hk
  have em : (xs.zip (ds.zip ks)).map (fun b : V × PyData × PyData => b.2.2) = ks := by
    rw [show (fun b : V × PyData × PyData => b.2.2) = (fun q : PyData × PyData => q.2) ∘ (fun b : V × PyData × PyData => b.2) from rfl, ← List.map_map, List.map_snd_zip (by rw [List.length_zip]; omega), List.map_snd_zip (by omega)]
  refine sorted_low (bs := xs.zip (ds.zip ks)) (Rl := fun (u : Value) (b : V × PyData × PyData) => RelV b.1 u) (fun b : V × PyData × PyData => b.2.2) hl.isList (each3 rv (by rw [List.length_zip]; omega)) (by rw [em]; exact b1) (by rw [em]; exact b2) ?_ (fun b hb' => ?_) (ksk_s1 _ _) (fun _ => ksk_l1 _ _) (fun _ => ksk_t1 _ _)
    (fun v b hR hb' h tk kp => ?_) fun out c h' tk kp hD eo => ?_
  · rw [List.length_zip]
    exact Nat.le_trans (Nat.min_le_left _ _) hz
  · have : b.2.2 ∈ ks := by
      rw [← em]
      exact List.mem_map_of_mem hb'
    have := (b3 _ this).2
    have := hr.units
    omega
  · obtain ⟨z1, z2, z3⟩ := zip3_mem hd l2.symm b hb'
    obtain ⟨as, r0⟩ := Dp.reads I _ _ _ (z1.dp _ _ (canLay_mem hn _ z3)) hR
    have low := reads_in _ r0
    have hkb := keysBy_mem hk _ z2
    unfold rankD at hkb
    split at hkb
    · rename_i es e1
      split at hkb
      · rename_i few
        rw [e1] at r0
        rw [← Option.some.inj hkb]
        exact rank_call (s := { s with heap := h, toks := tk }) F S (hb v) hc hlen I.mod (fun b o e => kp b o (I.bk b o e)) hm hr.depth (PyProof.Rows.Reads.keeps kp r0) low few hdb
      · cases hkb
    · cases hkb
  · have hvals := vals3 eo
    have hl2 : (((xs.zip (ds.zip ks)).mergeSort (PySem.W.dataLe false (fun b : V × PyData × PyData => b.2.2))).map (·.1)).length ≤ sizeLine := by
      rw [List.length_map, List.length_mergeSort, List.length_zip]
      exact Nat.le_trans (Nat.min_le_left _ _) hz
    exact ⟨.ref _, upd H (s.heap.objs.size + 1) (.lst _), I.laid (t' := tk) kp (Nat.le_succ _) (show ObjOk X.prog X.w _ _ _ (.lst _) from ⟨hl2, out, c, hvals, hD⟩), rfl, q _ (I.hok.fresh (Nat.le_succ _))⟩
end
section
variable {α : Type}
def rkD (e : α → PyData) (r : List α) : PyData := .tuple [.int r.length, .list (r.map e)]
theorem keys_rank (e : α → PyData) : ∀ l : List (List α), keysBy rankD (l.map (eL e)) = if ∀ r ∈ l, r.length ≤ 100000 then some (l.map (rkD e)) else none
  | [] => by simp [keysBy]
  | r :: l => by
    show (rankD (eL e r)).bind (fun k => (keysBy rankD (l.map (eL e))).map (k :: ·)) = _
    rw [keys_rank e l]
    have er : rankD (eL e r) = if r.length ≤ 100000 then some (rkD e r) else none := by
      show (if (r.map e).length ≤ 100000 then some (PyData.tuple [.int (r.map e).length, .list (r.map e)]) else none) = _
      rw [List.length_map]
      rfl
    rw [er]
    by_cases h1 : r.length ≤ 100000
    · rw [if_pos h1]
      by_cases h2 : ∀ r ∈ l, r.length ≤ 100000
      · rw [if_pos h2, if_pos (by intro x hx; rcases List.mem_cons.mp hx with rfl | hx; exact h1; exact h2 x hx)]
        rfl
      · rw [if_neg h2, if_neg (fun h => h2 fun x hx => h x (List.mem_cons_of_mem _ hx))]
        rfl
    · rw [if_neg h1, if_neg (show ¬ ∀ x ∈ r :: l, x.length ≤ 100000 from fun h => h1 (h r List.mem_cons_self))]
      rfl
end
end Cm
namespace Cm
open PySem L2
def mTurn (b : MS) : MS := fun e => (b e).map fun p => match p.1 with
  | .ct => (.nx, p.2)
  | _ => p
theorem forL_turn {g : MG} {b : MS} : ∀ (ds : List PyData) (e : Sl), forL g (mTurn b) ds e = forL g b ds e
  | [], e => rfl
  | d :: ds, e => by
    unfold forL
    cases g d e with
    | none => rfl
    | some e1 =>
      simp only [Option.bind_some, mTurn]
      cases b e1 with
      | none => rfl
      | some q =>
        obtain ⟨f, e2⟩ := q
        cases f with
        | nx => exact forL_turn ds e2
        | ct => exact forL_turn ds e2
        | _ => rfl
theorem vs_forC {X : Cx} {tg iter : Expr} {body : List Stmt} {js : List Nat} {g : MG} {b : MS} {mi : MI} {pos : Pos} (hp : PassesOwn (model X.prog X.w) X.A X.env X.xe) (hi : VI X tg iter mi) (hg : VG X tg js g) (hb : VSs X body b) (hc : X.calm = true := by rfl)
    (hs : ∀ x, foldedSetIterable iter X.env x = pure x := by intro _; rfl) : VS X (.For tg iter body [] pos) (mFor mi g (mTurn b)) := by
  have e : mFor mi g (mTurn b) = mFor mi g b := by
    funext env
    unfold mFor
    congr 1
    funext p
    exact forL_turn _ _
  rw [e]
  exact vs_for hp hi hg hb hc hs
section
variable {β : Type} {env : Sl} {R : Option β} {b : MS} {K : Fl → Sl → Option β}
def noct : Fl → Fl
  | .ct => .nx
  | f => f
theorem c_turn (k : bnd (b env) (fun f e => K (noct f) e) = R) : bnd (mTurn b env) K = R := by
  rw [← k]
  unfold mTurn bnd
  cases b env with
  | none => rfl
  | some q =>
    obtain ⟨f, e⟩ := q
    cases f <;> rfl
theorem c_ctn (k : K .ct env = R) : bnd (mCont env) K = R := k
end
theorem c_seqC {β : Type} {b : MS} {e : Sl} {K : Fl → Sl → Option β} {R : Option β} (k : K .ct e = R) : seqK b .ct e K = R := k
def mKn (m : ME) : ME := fun env => (m env).bind fun p => (pvR p.1).bind fun x => (x.deepK (sto p.2) 9).map fun d => (.dat d, p.2)
def MC.knd : MC → MC
  | .lst ps => .kn (.lst ps)
  | .dct es => .kn (.dct es)
  | .ins C fs => .kn (.ins C fs)
  | .tab x => .kn (.tab x)
  | c => c
def lentM (l : Option Nat) (M : List MC) : Option (List MC) := match l with
  | none => some (M.map MC.knd)
  | some n => match M[n]? with
    | some (.dct es) => (datsK es).map fun ds => (M.map MC.knd).set n (.lk ds)
    | _ => none
def lentSlotK (M' : List MC) : Slot → Slot
  | .own c => .val c.dat
  | .io _ c => .val c.dat
  | .sto _ => .sto M'
  | .pin _ => .no
  | s => s
def lkAt (lk : Option ME) (env : Sl) : Option (Option Nat) := match lk with
  | none => some none
  | some m => (m env).bind fun p => match p.1 with
    | .pv (.ref n) => some (some n)
    | _ => none
def stoOf (env : Sl) : Option (List MC) := match env[env.length - 1]? with
  | some (.sto M) => some M
  | _ => none
def mLendK (lk : Option ME) (m : ME) : ME := fun env => (stoOf env).bind fun M => (lkAt lk env).bind fun l => (lentM l M).bind fun M' => (m (env.map (lentSlotK M'))).bind fun p => if resFlat p.1 = true then some (p.1, env) else none
def mLendKT (m : MT) : MT := fun env => (stoOf env).bind fun M => (lentM none M).bind fun M' => (m (env.map (lentSlotK M'))).bind fun p => some (p.1, env)
section
variable {X : Cx} {K : PySem.W.Frag} {B : Fb} {env env' : Sl} {σ : L2.St} {Hk Hk' : Kn} {H H' : Hp}
theorem kn_run {m : ME} {Q : VK} (h : tE K (mKn m) σ H Q) : tE K m σ H Q := by
  obtain ⟨B, env, Hk, res, env', R, hm, k⟩ := h
  obtain ⟨⟨r1, e1⟩, h1, hm⟩ := Option.bind_eq_some_iff.mp hm
  obtain ⟨x, h2, hm⟩ := Option.bind_eq_some_iff.mp hm
  obtain ⟨d, h3, hm⟩ := Option.map_eq_some_iff.mp hm
  cases hm
  exact ⟨B, env, Hk, r1, e1, R, h1, fun v Hk1 H1 R1 s1 o1 => k v Hk1 H1 R1 s1 (R1.deepK 9 (o1.pvR h2) h3)⟩
theorem ve_kn {e : Expr} {m : ME} (h : VE X e m) : VE X e (mKn m) := h.imp fun _ _ _ => kn_run
open Classical in
noncomputable def lentKK (env : Sl) (σ : L2.St) (Hk : Kn) (H H' : Hp) : Hp := fun x =>
  if (∃ (j : Nat) (s : Slot), env[j]? = some s ∧ s.mut ∧ σ[j]? = some (some (V.ref x))) ∨ (∃ (n : Nat) (c : MC), (sto env)[n]? = some c ∧ c.live ∧ Hk.P n = some x) ∨
    (∃ (n : Nat) (c : MC) (b C : Addr) (vs : List (Str × V)), (sto env)[n]? = some c ∧ c.live ∧ Hk.P n = some b ∧ H b = some (.ins C x vs) ∧ H x = some (.own b)) then H' x else Hk x
theorem lentKK_same (R : Rel K B env σ Hk H) {L : Addr → Prop} (l : Lkd Hk H H' L) : Same Hk (lentKK env σ Hk H H') := fun a o e => by
  unfold lentKK
  split
  · exact l.same R.ex _ _ e
  · exact e
theorem lentKK_ex (R : Rel K B env σ Hk H) {L : Addr → Prop} (l : Lkd Hk H H' L) : Same (lentKK env σ Hk H H') H' := fun a o e => by
  unfold lentKK at e
  split at e
  · exact e
  · exact l.same R.ex _ _ e
theorem lentKK_new (R : Rel K B env σ Hk H) {L : Addr → Prop} (l : Lkd Hk H H' L) {a : Addr} (h : lentKK env σ Hk H H' a ≠ none) (hk : Hk a = none) : H a ≠ none ∧ ∃ o, H' a = some o ∧ (∀ xs, o ≠ .tup xs) ∧ ∀ u xs, o ≠ .frz u (.tup xs) := by
  by_cases z : L a
  · obtain ⟨_, _, od, kvs, w0, w⟩ := l.at_ a z
    exact ⟨ne_none w0, _, w, (fun x z => by cases z), fun u x z => by cases z⟩
  rw [l.out a z]
  suffices g : ∃ o, H a = some o ∧ (∀ xs, o ≠ .tup xs) ∧ ∀ u xs, o ≠ .frz u (.tup xs) by
    obtain ⟨o, g1, g2⟩ := g
    exact ⟨ne_none g1, o, g1, g2⟩
  unfold lentKK at h
  split at h
  · rename_i hc
    rcases hc with ⟨j, s, h1, h2, h3⟩ | ⟨n, c, h1, h2, h3⟩ | ⟨n, c, b, C, vs, _, _, _, _, h5⟩
    · obtain ⟨o, g1, g2⟩ := R.slot j s h1
      rw [h3] at g1
      cases g1
      have fin : ∀ c, CellAt K Hk H a c → ∃ o, H a = some o ∧ (∀ xs, o ≠ .tup xs) ∧ ∀ u xs, o ≠ .frz u (.tup xs) := fun c hc => by
        cases c with
        | lst ds =>
          obtain ⟨vs, g1, _⟩ := hc
          exact ⟨_, g1, (fun x z => by cases z), fun u x z => by cases z⟩
        | dct ds =>
          obtain ⟨vs, g1, _⟩ := hc
          exact ⟨_, g1, (fun x z => by cases z), fun u x z => by cases z⟩
      cases s with
      | own c => obtain ⟨b, e1, _, _, q⟩ := g2; cases e1; exact fin c q
      | io k c => obtain ⟨b, e1, _, _, q⟩ := g2; cases e1; exact fin c q
      | _ => cases h2
    · obtain ⟨_, b, g1, g2, g3⟩ := R.stoAt h1
      rw [h3] at g1
      cases g1
      cases c with
      | lst ds =>
        obtain ⟨vs, g1, _⟩ := g2
        exact ⟨_, g1, (fun x z => by cases z), fun u x z => by cases z⟩
      | dct ds =>
        obtain ⟨vs, g1, _⟩ := g2
        exact ⟨_, g1, (fun x z => by cases z), fun u x z => by cases z⟩
      | ins C fs =>
        obtain ⟨dx, vs, g1, _⟩ := g2
        exact ⟨_, g1, (fun x z => by cases z), fun u x z => by cases z⟩
      | kn c => cases h2
      | lk es => cases h2
      | tab x =>
        obtain ⟨_, ps, g1, _⟩ := g2
        exact ⟨_, g1, (fun x z => by cases z), fun u x z => by cases z⟩
    · exact ⟨_, h5, (fun x z => by cases z), fun u x z => by cases z⟩
  · exact absurd hk h
theorem stoOf_has {M : List MC} (h : stoOf env = some M) : HasSto env M := by
  unfold stoOf at h
  split at h
  · rename_i hM
    cases h
    exact hM
  · cases h
theorem lentK_rel (R : Rel K B env σ Hk H) (hS0 : HasSto env (sto env)) {L : Addr → Prop} (l : Lkd Hk H H' L) {M' : List MC} (hM : M'.length = (sto env).length) (hc : ∀ (n : Nat) c', M'[n]? = some c' → ∃ c, (sto env)[n]? = some c ∧ ((c.live ∧ c' = .kn c ∧ ∀ a, Hk.P n = some a → ¬ L a) ∨ (¬ c.live ∧ c' = c) ∨ (∃ es ds, c = .dct es ∧ datsK es = some ds ∧ c' = .lk ds ∧ ∀ a, Hk.P n = some a → L a))) :
    ∃ B' : Fb, B'.H0 = H' ∧ B'.K0 = ⟨lentKK env σ Hk H H', Hk.P⟩ ∧ (∀ a, ¬ B'.io a) ∧ Rel K B' (env.map (lentSlotK M')) σ ⟨lentKK env σ Hk H H', Hk.P⟩ H' := by
  have sm := lentKK_same R l
  have ksm : KSame Hk ⟨lentKK env σ Hk H H', Hk.P⟩ := ⟨sm, fun _ _ q => q⟩
  refine ⟨⟨⟨lentKK env σ Hk H H', Hk.P⟩, H', fun _ => none, fun _ => none, fun _ => False⟩, rfl, rfl, fun a z => z.elim (fun ⟨k, z⟩ => by cases z) id, ?_⟩
  have own : ∀ (i : Nat) s a c, env[i]? = some s → s.mut → σ[i]? = some (some (V.ref a)) → CellAt K Hk H a c → Dv K (lentKK env σ Hk H H') (.ref a) c.dat := fun i s a c h1 h2 h3 hc => by
    obtain ⟨ob, g1, g2⟩ := hc.obj
    refine g2 _ sm ?_
    have nl : ¬ L a := fun z => by
      obtain ⟨_, ⟨n, hn⟩, _⟩ := l.at_ a z
      exact R.psep i s a n h1 h2 h3 hn
    have : lentKK env σ Hk H H' a = H' a := if_pos (.inl ⟨i, s, h1, h2, h3⟩)
    rw [this, l.out a nl]
    exact g1
  have nomut : ∀ (i : Nat) t, (env.map (lentSlotK M'))[i]? = some t → ¬ t.mut := fun i t hi => by
    rw [List.getElem?_map] at hi
    obtain ⟨s, h1, rfl⟩ := Option.map_eq_some_iff.mp hi
    cases s <;> exact fun z => z
  have known : ∀ (n : Nat) c a, (sto env)[n]? = some c → Hk.P n = some a → lentKK env σ Hk H H' a ≠ none := fun n c a h1 h2 => by
    by_cases lv : c.live
    · have : lentKK env σ Hk H H' a = H' a := if_pos (.inr (.inl ⟨n, c, h1, lv, h2⟩))
      rw [this]
      exact l.there (R.pin n a h2).1
    · obtain ⟨_, b, g1, g2, _⟩ := R.stoAt h1
      rw [h2] at g1
      cases g1
      obtain ⟨o, ho⟩ := Option.ne_none_iff_exists'.mp (g2.known lv)
      exact ne_none (sm _ _ ho)
  refine ⟨lentKK_ex R l, .refl _, fun a h1 h2 => absurd h2 h1, fun a o h _ => h, (fun a z => z.elim (fun ⟨k, z⟩ => by cases z) fun z => z.elim), (fun a z => z.elim (fun ⟨k, z⟩ => by cases z) fun z => z.elim), by rw [List.length_map]; exact R.len, fun i t hi => ?_, fun i j s t a hi _ hm => absurd hm (nomut i s hi), fun M1 hM1 => ?_, fun n a h => ⟨l.there (R.pin n a h).1, fun z => ?_⟩, fun i s a n hi hm => absurd hm (nomut i s hi)⟩
  · rw [List.getElem?_map] at hi
    obtain ⟨s, h1, rfl⟩ := Option.map_eq_some_iff.mp hi
    obtain ⟨o, g1, g2⟩ := R.slot i s h1
    refine ⟨o, g1, ?_⟩
    cases s with
    | no => trivial
    | sto M => trivial
    | pin k => trivial
    | val d =>
      obtain ⟨v, e, q⟩ := g2
      exact ⟨v, e, dv_mono sm _ _ q⟩
    | pv p =>
      obtain ⟨v, e, q⟩ := g2
      exact ⟨v, e, q.mono ksm⟩
    | scr ns =>
      obtain ⟨a, e, q⟩ := g2
      exact ⟨a, e, sm.seq q⟩
    | own c =>
      obtain ⟨a, e, _, _, q⟩ := g2
      subst e
      exact ⟨_, rfl, own i _ a c h1 trivial g1 q⟩
    | io k c =>
      obtain ⟨a, e, _, _, q⟩ := g2
      subst e
      exact ⟨_, rfl, own i _ a c h1 trivial g1 q⟩
  · have eM : M1 = M' ∧ HasSto env (sto env) := by
      unfold HasSto at hM1
      rw [List.length_map, List.getElem?_map] at hM1
      obtain ⟨s, h1, h2⟩ := Option.map_eq_some_iff.mp hM1
      cases s with
      | sto M =>
        have : HasSto env M := h1
        refine ⟨(Slot.sto.inj h2).symm, ?_⟩
        rw [this.sto]
        exact this
      | _ => cases h2
    obtain ⟨rfl, hS⟩ := eM
    have S := R.sok _ hS
    refine ⟨fun n c' h => ?_, S.inj, fun n h => S.top n (by rw [← hM]; exact h)⟩
    obtain ⟨c, g1, g2⟩ := hc n c' h
    obtain ⟨a, w1, w2, w3⟩ := S.cel n c g1
    rcases g2 with ⟨lv, rfl, nl⟩ | ⟨nlv, rfl⟩ | ⟨es, ds, rfl, hd, rfl, hl⟩
    · refine ⟨a, w1, ?_, fun z => z.elim⟩
      have ha : lentKK env σ Hk H H' a = H a := by
        have : lentKK env σ Hk H H' a = H' a := if_pos (.inr (.inl ⟨n, c, g1, lv, w1⟩))
        rw [this, l.out a (nl a w1)]
      show CellM K _ (lentKK env σ Hk H H') a c
      cases c with
      | lst ps =>
        obtain ⟨vs, q1, q2⟩ := w2
        exact ⟨vs, by rw [ha]; exact q1, q2.mono ksm⟩
      | dct ps =>
        obtain ⟨vs, q1, q2⟩ := w2
        exact ⟨vs, by rw [ha]; exact q1, q2.mono ksm⟩
      | ins C fs =>
        obtain ⟨dx, vs, q1, q2, q3⟩ := w2
        refine ⟨dx, vs, by rw [ha]; exact q1, ?_, q3.mono ksm⟩
        have : lentKK env σ Hk H H' dx = H' dx := if_pos (.inr (.inr ⟨n, _, a, _, vs, g1, lv, w1, q1, q2⟩))
        rw [this, l.out dx fun z => by
          obtain ⟨_, _, od, kvs, z1, _⟩ := l.at_ dx z
          rw [q2] at z1
          cases z1]
        exact q2
      | kn c => exact lv.elim
      | lk es => exact lv.elim
      | tab x =>
        obtain ⟨q0, ps, q1, q2, q3⟩ := w2
        refine ⟨q0, ps, by rw [ha]; exact q1, q2, fun pos cv z => ?_⟩
        obtain ⟨c, e1, e2⟩ := q3 pos cv z
        exact ⟨c, e1, ksm.s _ _ e2⟩
    · exact ⟨a, w1, w2.mono ksm (fun o z => l.same R.ex _ _ (by
        obtain ⟨u, hu⟩ := Option.ne_none_iff_exists'.mp (w2.known nlv)
        have := R.ex _ _ hu
        rw [z] at this
        cases this
        exact hu)) (fun dx z => by
        rw [l.out dx fun y => by
          obtain ⟨_, _, od, kvs, z1, _⟩ := l.at_ dx y
          rw [z] at z1
          cases z1]
        exact z), fun z => absurd z nlv⟩
    · refine ⟨a, w1, ?_, fun z => z.elim⟩
      obtain ⟨_, _, od, kvs, z1, z2⟩ := l.at_ a (hl a w1)
      obtain ⟨kvs', q1, q2⟩ := w2
      rw [q1] at z1
      cases z1
      refine ⟨od, kvs, ?_, dvKv_mono sm (datsK_dv q2 hd)⟩
      have : lentKK env σ Hk H H' a = H' a := if_pos (.inr (.inl ⟨n, _, g1, trivial, w1⟩))
      exact this.trans z2
  · -- a place that is pinned is known
    have z : lentKK env σ Hk H H' a = none := z
    by_cases hn : n < (sto env).length
    · exact absurd z (known n _ a (List.getElem?_eq_getElem hn) h)
    · have := (R.sok _ hS0).top n (by omega)
      rw [h] at this
      cases this
theorem knd_of {M : List MC} {n : Nat} {c' : MC} (h : (M.map MC.knd)[n]? = some c') : ∃ c, M[n]? = some c ∧ ((c.live ∧ c' = .kn c) ∨ (¬ c.live ∧ c' = c)) := by
  rw [List.getElem?_map] at h
  obtain ⟨c, h1, rfl⟩ := Option.map_eq_some_iff.mp h
  refine ⟨c, h1, ?_⟩
  cases c with
  | lst ps => exact .inl ⟨trivial, rfl⟩
  | dct es => exact .inl ⟨trivial, rfl⟩
  | ins C fs => exact .inl ⟨trivial, rfl⟩
  | kn c => exact .inr ⟨fun z => z, rfl⟩
  | lk es => exact .inr ⟨fun z => z, rfl⟩
  | tab x => exact .inl ⟨trivial, rfl⟩
theorem lentK_out (R : Rel K B env σ Hk H) {L : Addr → Prop} (l : Lkd Hk H H' L) {B' : Fb} {e3 : Sl} {Hk3 : Kn} {H3 H4 : Hp} {r : Res} {v : V} (b1 : B'.H0 = H') (b2 : B'.K0 = ⟨lentKK env σ Hk H H', Hk.P⟩) (b3 : ∀ a, ¬ B'.io a) (R3 : Rel K B' e3 σ Hk3 H3)
    (h4 : ∀ x, ¬ L x → H4 x = H3 x) (h5 : ∀ x, L x → H4 x = H x) (hF : resFlat r = true) (o3 : ResOk K B' e3 σ Hk3 H3 r v) : ∃ Hk' : Kn, Rel K B env σ Hk' H4 ∧ KSame Hk Hk' ∧ ResOk K B env σ Hk' H4 r v := by
  have sH : Same H' H3 := fun a o e => R3.kp a o (by rw [b1]; exact e) (b3 a)
  have s1 : Same Hk.k Hk3.k := (lentKK_same R l).trans (by have := R3.kn; rw [b2] at this; exact this.s)
  have hn : ∀ a, Hk3.k a ≠ none → Hk a = none → H a = none ∨ ∃ o, H3 a = some o ∧ (∀ xs, o ≠ .tup xs) ∧ ∀ u xs, o ≠ .frz u (.tup xs) := fun a h3 hk => by
    by_cases hl : lentKK env σ Hk H H' a = none
    · refine .inl ?_
      have := R3.fr a h3 (by rw [b2]; exact hl)
      rw [b1] at this
      cases q : H a with
      | none => rfl
      | some o => exact absurd this (l.there (ne_none q))
    · obtain ⟨_, o, g1, g2⟩ := lentKK_new R l hl hk
      exact .inr ⟨o, sH _ _ g1, g2⟩
  have nl : ∀ a, H a = none → ¬ L a := fun a e z => by
    obtain ⟨_, _, od, kvs, w, _⟩ := l.at_ a z
    rw [e] at w
    cases w
  have sH4 : Same H H4 := fun a o e => by
    by_cases z : L a
    · rw [h5 a z]; exact e
    · rw [h4 a z]; exact sH _ _ (by rw [l.out a z]; exact e)
  have sk : Same Hk.k (tpK Hk H H3) := fun a o e => by
    unfold tpK
    rw [if_pos (ne_none e)]
    exact e
  have R2 : Rel K B env σ ⟨tpK Hk H H3, Hk.P⟩ H4 := R.grow (Hk' := ⟨tpK Hk H H3, Hk.P⟩) sk (fun a o e => by
    have e : tpK Hk H H3 a = some o := e
    unfold tpK at e
    split at e
    · exact sH4 _ _ (R.ex _ _ e)
    · split at e
      · rename_i hz
        rw [h4 a (nl a hz)]
        split at e
        · rename_i q; rw [q]; exact e
        · rename_i q; rw [q]; exact e
        · cases e
      · cases e) sH4 fun a g1 g2 => by
    have g1 : tpK Hk H H3 a ≠ none := g1
    unfold tpK at g1
    rw [if_neg (fun y => y g2)] at g1
    by_cases z : H a = none
    · exact z
    · rw [if_neg z] at g1
      exact absurd rfl g1
  refine ⟨⟨tpK Hk H H3, Hk.P⟩, R2, ⟨sk, fun _ _ z => z⟩, ?_⟩
  cases r with
  | dat d => exact tpK_dv R3.ex s1 hn o3 hF
  | slt i => cases hF
  | pv p => cases hF
  | new c =>
    obtain ⟨p, rfl, w1, w2, w3, w6, w5⟩ := o3
    rw [b1] at w2
    have w2 : H p = none := by
      cases q : H p with
      | none => rfl
      | some o => exact absurd w2 (l.there (ne_none q))
    have hkp : tpK Hk H H3 p = none := by
      unfold tpK
      rw [if_neg (fun y => y (R.kfree w2)), if_pos w2]
      cases c with
      | lst ds =>
        obtain ⟨vs, q1, _⟩ := w3
        rw [q1]
      | dct ds =>
        obtain ⟨vs, q1, _⟩ := w3
        rw [q1]
    refine ⟨p, rfl, hkp, R.fresh0 w2, ?_, R.pfree w2, fun j s hj hm => R.mutNe w2 hj hm⟩
    cases c with
    | lst ds =>
      obtain ⟨vs, q1, q2⟩ := w3
      exact ⟨vs, by rw [h4 p (nl p w2)]; exact q1, tpK_dvs R3.ex s1 hn q2 hF⟩
    | dct ds =>
      obtain ⟨vs, q1, q2⟩ := w3
      exact ⟨vs, by rw [h4 p (nl p w2)]; exact q1, tpK_kvs R3.ex s1 hn q2 hF⟩
theorem lendK_run {m : ME} {Q : VK} (h : tE K (mLendK none m) σ H Q) : tE K m σ H Q := by
  obtain ⟨B, env, Hk, r, env', R, hm, k⟩ := h
  obtain ⟨M, hM, hm⟩ := Option.bind_eq_some_iff.mp hm
  obtain ⟨l, hl, hm⟩ := Option.bind_eq_some_iff.mp hm
  cases hl
  obtain ⟨M', h1, hm⟩ := Option.bind_eq_some_iff.mp hm
  cases h1
  obtain ⟨⟨r1, e3⟩, h2, hm⟩ := Option.bind_eq_some_iff.mp hm
  by_cases hF : resFlat r1 = true
  · have hm : (if resFlat r1 = true then some (r1, env) else none) = some (r, env') := hm
    rw [if_pos hF] at hm
    cases hm
    have hS := stoOf_has hM
    have eM := hS.sto
    subst eM
    have lk : Lkd Hk H H fun _ => False := ⟨fun _ _ => rfl, fun _ z => z.elim⟩
    obtain ⟨B', b1, b2, b3, R'⟩ := lentK_rel R hS lk (M' := (sto env).map MC.knd) (List.length_map _) fun n c' hc => by
      obtain ⟨c, g1, g2⟩ := knd_of hc
      refine ⟨c, g1, ?_⟩
      rcases g2 with ⟨g2, g3⟩ | g2
      · exact .inl ⟨g2, g3, fun _ _ z => z⟩
      · exact .inr (.inl g2)
    refine ⟨B', _, _, r, e3, R', h2, fun v Hk3 H3 R3 s3 o3 => ?_⟩
    obtain ⟨Hk4, R4, s4, o4⟩ := lentK_out (H4 := H3) R lk b1 b2 b3 R3 (fun _ _ => rfl) (fun _ z => z.elim) hF o3
    exact k v Hk4 H3 R4 s4 o4
  · have hm : (if resFlat r1 = true then some (r1, env) else none) = some (r, env') := hm
    rw [if_neg hF] at hm
    cases hm
theorem ve_lendK {e : Expr} {m : ME} (h : VE X e m) : VE X e (mLendK none m) := h.imp fun _ _ _ => lendK_run
theorem lendKT_run {m : MT} {Q : Bool → Hp → Prop} (h : tT K (mLendKT m) σ H Q) : tT K m σ H Q := by
  obtain ⟨B, env, Hk, b, env', R, hm, k⟩ := h
  obtain ⟨M, hM, hm⟩ := Option.bind_eq_some_iff.mp hm
  obtain ⟨M', h1, hm⟩ := Option.bind_eq_some_iff.mp hm
  cases h1
  obtain ⟨⟨r1, e3⟩, h2, hm⟩ := Option.bind_eq_some_iff.mp hm
  cases hm
  have hS := stoOf_has hM
  have eM := hS.sto
  subst eM
  have lk : Lkd Hk H H fun _ => False := ⟨fun _ _ => rfl, fun _ z => z.elim⟩
  obtain ⟨B', b1, b2, b3, R'⟩ := lentK_rel R hS lk (M' := (sto env).map MC.knd) (List.length_map _) fun n c' hc => by
    obtain ⟨c, g1, g2⟩ := knd_of hc
    refine ⟨c, g1, ?_⟩
    rcases g2 with ⟨g2, g3⟩ | g2
    · exact .inl ⟨g2, g3, fun _ _ z => z⟩
    · exact .inr (.inl g2)
  refine ⟨B', _, _, r1, e3, R', h2, fun Hk3 H3 R3 s3 => ?_⟩
  obtain ⟨Hk4, R4, s4, _⟩ := lentK_out (H4 := H3) (r := .dat .none) (v := .non) R lk b1 b2 b3 R3 (fun _ _ => rfl) (fun _ z => z.elim) rfl .non
  exact k Hk4 H3 R4 s4
theorem vt_lendK {e : Expr} {m : MT} (h : VT X e m) : VT X e (mLendKT m) := h.imp fun _ _ _ => lendKT_run
end
def pvK : PV → Option Key
  | .dat d => keyOf d
  | _ => none
section
variable {X : Cx} {K : PySem.W.Frag} {B : Fb} {env env' : Sl} {σ : L2.St} {Hk Hk' : Kn} {H H' : Hp}
theorem pvK_v {v : V} {p : PV} {k : Key} (h : PvOk K Hk v p) (e : pvK p = some k) : v = kV k := by
  cases p with
  | dat d =>
    cases h with
    | dat q => exact key_V q e
  | _ => cases e
end
def gGet1 (M : List MC) (x k : PV) : Option PV := (pvK k).bind fun q => (x.dx M q).map fun o => o.getD (.dat .none)
def mDGetP1 (mo mk : ME) : ME := fun env => (mo env).bind fun o => (pvR o.1).bind fun x => if isDP (sto o.2) x = true then (mk o.2).bind fun k => (pvR k.1).bind fun pk => (gGet1 (sto k.2) x pk).map fun z => (.pv z, k.2) else none
section
variable {X : Cx} {K : PySem.W.Frag} {B : Fb} {env env' : Sl} {σ : L2.St} {Hk Hk' : Kn} {H H' : Hp}
theorem isDP_is (R : Rel K B env σ Hk H) {v : V} {x : PV} (hv : PvOk K Hk v x) (h : isDP (sto env) x = true) : ∃ a, v = .ref a ∧ IsD H a := by
  cases hv with
  | tup _ _ => cases h
  | @dat v d q =>
    cases d with
    | dict es =>
      cases q with
      | dct h1 h2 => exact ⟨_, rfl, .inl ⟨_, same_rd R.ex h1⟩⟩
    | _ => cases h
  | @ref a n q =>
    unfold isDP at h
    cases hc : (sto env)[n]? with
    | none => simp only [hc] at h; cases h
    | some c =>
      obtain ⟨hS, b, g1, g2, g3⟩ := R.stoAt hc
      rw [q] at g1
      cases g1
      simp only [hc] at h
      cases c with
      | dct es =>
        obtain ⟨kvs, h1, _⟩ := g2
        exact ⟨a, rfl, .inl ⟨kvs, .inl h1⟩⟩
      | lk es =>
        obtain ⟨od, kvs, h1, _⟩ := g2
        exact ⟨a, rfl, .inl ⟨kvs, .inr ⟨od, R.ex _ _ h1⟩⟩⟩
      | kn c' =>
        cases c' with
        | dct es =>
          obtain ⟨kvs, h1, _⟩ := g2
          exact ⟨a, rfl, .inl ⟨kvs, .inl (R.ex _ _ h1)⟩⟩
        | _ => cases h
      | _ => cases h
theorem dgetP1_run {mo mk : ME} {Q : VK} (h : tE K (mDGetP1 mo mk) σ H Q) : tDGet1 (tE K mo) (tE K mk) σ H Q := by
  obtain ⟨B, env, Hk, res, env', R, hm, k⟩ := h
  obtain ⟨⟨o, e1⟩, h1, hm⟩ := Option.bind_eq_some_iff.mp hm
  obtain ⟨x, h2, hm⟩ := Option.bind_eq_some_iff.mp hm
  by_cases hD : isDP (sto e1) x = true
  · have hm : (if isDP (sto e1) x = true then _ else _) = some (res, env') := hm
    rw [if_pos hD] at hm
    obtain ⟨⟨q, e2⟩, h3, hm⟩ := Option.bind_eq_some_iff.mp hm
    obtain ⟨pk, h4, hm⟩ := Option.bind_eq_some_iff.mp hm
    obtain ⟨z, h5, hm⟩ := Option.map_eq_some_iff.mp hm
    cases hm
    obtain ⟨kk, h6, h5⟩ := Option.bind_eq_some_iff.mp h5
    obtain ⟨w, h7, rfl⟩ := Option.map_eq_some_iff.mp h5
    refine ⟨B, env, Hk, o, e1, R, h1, fun v Hk1 H1 R1 s1 o1 => ?_⟩
    obtain ⟨a, rfl, g1⟩ := isDP_is R1 (o1.pvR h2) hD
    refine ⟨a, rfl, g1, B, e1, Hk1, q, e2, R1, h3, fun u Hk2 H2 R2 s2 o2 => ?_⟩
    obtain ⟨a', kvs, ea, w1, w2⟩ := dx_at R2 ((o1.pvR h2).mono s2) h7
    cases ea
    have ek := pvK_v (o2.pvR h4) h6
    rcases w2 with ⟨z1, rfl⟩ | ⟨vu, p, z1, rfl, z3⟩
    · exact ⟨none, .inl ⟨kvs, kk, w1, ek, z1.symm⟩, k _ Hk2 H2 R2 (s1.trans s2) (.dat .non)⟩
    · exact ⟨some vu, .inl ⟨kvs, kk, w1, ek, z1.symm⟩, k _ Hk2 H2 R2 (s1.trans s2) z3⟩
  · have hm : (if isDP (sto e1) x = true then _ else _) = some (res, env') := hm
    rw [if_neg hD] at hm
    cases hm
theorem ve_dgetP1 {o e : Expr} {mo mk : ME} {apos cpos : Pos} (hu : X.A.units + 64 < cLine) (ho : VE X o mo) (he : VE X e mk) (hb : attributeBase o "get" X.env (eval o X.env) = eval o X.env := by rfl)
    (hf : ((backTo cpos (starEach [e] X.env)).all (fun x => !x.1) && (backToKw cpos (keywordEach [] X.env)).all (fun x => x.1.isSome) && decide (([e] : List Expr).length + ([] : List Keyword).length + (if ([] : List Keyword).isEmpty then 0 else 1) < 30)) = true := by rfl)
    (hl : (apos.endLine == cpos.line) = true := by rfl) (ht : backTo cpos (starEach [e] X.env) = [(false, eval e X.env)] := by rfl) : VE X (.Call (.Attribute o "get" apos) [e] [] cpos) (mDGetP1 mo mk) :=
  (pe_dget1 (by omega) ho he ⟨hb, hf, hl, ht⟩).imp fun _ _ _ => dgetP1_run
end
section
variable {α β γ τ : Type} {a : α → PyData} {b : β → PyData}
def decP (A : Dec a) (B : Dec b) : PyData × PyData → Option (α × β) := fun p => (A.f p.1).bind fun x => (B.f p.2).map fun y => (x, y)
theorem decP_all (A : Dec a) (B : Dec b) : ∀ (ds : List (PyData × PyData)) (xs : List (α × β)), mapO (decP A B) ds = some xs → xs.map (eP a b) = ds
  | [], xs, h => by cases h; rfl
  | y :: ds, xs, h => by
    obtain ⟨z, h1, h2⟩ := Option.bind_eq_some_iff.mp (show (decP A B y).bind _ = some xs from h)
    obtain ⟨zs, h3, rfl⟩ := Option.map_eq_some_iff.mp h2
    obtain ⟨u, g1, g2⟩ := Option.bind_eq_some_iff.mp h1
    obtain ⟨v, g3, rfl⟩ := Option.map_eq_some_iff.mp g2
    rw [List.map_cons, decP_all A B ds zs h3]
    show (a u, b v) :: ds = _
    rw [A.snd _ _ g1, B.snd _ _ g3]
theorem decP_map (A : Dec a) (B : Dec b) : ∀ xs : List (α × β), mapO (decP A B) (xs.map (eP a b)) = some xs
  | [] => rfl
  | x :: xs => by
    show (decP A B (a x.1, b x.2)).bind _ = _
    unfold decP
    rw [A.cmp, Option.bind_some, B.cmp]
    show (some (x.1, x.2)).bind _ = _
    rw [Option.bind_some]
    have := decP_map A B xs
    unfold decP at this
    rw [this]
    rfl
def decM (A : Dec a) (B : Dec b) : Dec (eM a b) := ⟨fun d => match d with
  | .dict es => mapO (decP A B) es
  | _ => none, fun d x h => by
    cases d with
    | dict es => exact congrArg PyData.dict (decP_all A B es x h)
    | _ => (cases h), fun x => decP_map A B x⟩
end
def mTyE (ok : PyData → Bool) (m : ME) : ME := fun env => (m env).bind fun p => match p.1 with
  | .dat d => if ok d = true then some p else none
  | _ => none
section
variable {X : Cx} {K0 : PySem.W.Frag} {α β γ τ : Type} {env e : Sl} {R : Option β} {m ma mb mo mk mv mz : ME} {ms : MA} {M M' : List MC}
theorem tyEE_run {ok : PyData → Bool} {σ : L2.St} {H : Hp} {Q : VK} (h : tE K0 (mTyE ok m) σ H Q) : tE K0 m σ H Q := by
  obtain ⟨B, env, Hk, res, env', R, hm, k⟩ := h
  obtain ⟨⟨r, e1⟩, h1, hm⟩ := Option.bind_eq_some_iff.mp hm
  cases r with
  | dat d =>
    dsimp only at hm
    split at hm
    · cases hm
      exact ⟨B, env, Hk, _, _, R, h1, k⟩
    · cases hm
  | _ => cases hm
theorem ve_tyE {ok : PyData → Bool} {e : Expr} (h : VE X e m) : VE X e (mTyE ok m) := h.imp fun _ _ _ => tyEE_run
def tyEK (ok : PyData → Bool) (r : Res) (e : Sl) (K : Res → Sl → Option β) : Option β := match r with
  | .dat d => if ok d = true then K r e else none
  | _ => none
theorem c_tyE {ok : PyData → Bool} {K : Res → Sl → Option β} (k : bnd (m env) (fun r e => tyEK ok r e K) = R) : bnd (mTyE ok m env) K = R := by
  rw [← k]; unfold mTyE bnd tyEK
  cases m env with
  | none => rfl
  | some p =>
    cases p with
    | mk r e =>
      cases r with
      | dat d =>
        simp only [Option.bind_some]
        split <;> rfl
      | _ => rfl
theorem c_tyEK {enc : α → PyData} (A : Dec enc) {d : PyData} {K : Res → Sl → Option β} {k : α → Option γ} {h : γ → Option β} (p : ∀ x, K (.dat (enc x)) e = (k x).bind h) : tyEK (fun d => (A.f d).isSome) (.dat d) e K = ((A.f d).bind k).bind h := by
  show (if (A.f d).isSome = true then K (.dat d) e else none) = _
  cases hx : A.f d with
  | none => rfl
  | some x =>
    have := A.snd _ _ hx
    subst this
    exact p x
def get1E (x : PV) (rk : Res) (e2 : Sl) (K : Res → Sl → Option β) : Option β := (pvR rk).bind fun pk => (gGet1 (sto e2) x pk).bind fun z => K (.pv z) e2
def getP1 (mk : ME) (r : Res) (e : Sl) (K : Res → Sl → Option β) : Option β := (pvR r).bind fun x => if isDP (sto e) x = true then bnd (mk e) (fun rk e2 => get1E x rk e2 K) else none
theorem c_getP1 {K : Res → Sl → Option β} (k : bnd (mo env) (fun r e => getP1 mk r e K) = R) : bnd (mDGetP1 mo mk env) K = R := by
  rw [← k]; unfold mDGetP1 bnd getP1 get1E bnd
  cases mo env with
  | none => rfl
  | some o =>
    simp only [Option.bind_some]
    cases pvR o.1 with
    | none => rfl
    | some x =>
      simp only [Option.bind_some]
      split
      · cases mk o.2 with
        | none => rfl
        | some q =>
          simp only [Option.bind_some]
          cases pvR q.1 with
          | none => rfl
          | some pk =>
            simp only [Option.bind_some]
            cases gGet1 (sto q.2) x pk <;> rfl
      · rfl
theorem c_getP1K {K : Res → Sl → Option β} {r : Res} {x : PV} {h : γ → Option β} {k : Unit → Option γ} (hr : pvR r = some x) (hM : sto e = M) (p : ∀ u, bnd (mk e) (fun rk e2 => get1E x rk e2 K) = (k u).bind h) : getP1 mk r e K = ((gd (isDP M x = true)).bind k).bind h := by
  subst hM
  unfold getP1 gd
  rw [hr, Option.bind_some]
  by_cases hl : isDP (sto e) x = true
  · rw [if_pos hl, if_pos hl]; exact p ()
  · rw [if_neg hl, if_neg hl]; rfl
theorem c_getP1E {K : Res → Sl → Option β} {rk : Res} {x pk : PV} {h : γ → Option β} {k : PV → Option γ} (hr : pvR rk = some pk) (hM : sto e = M) (p : ∀ z, K (.pv z) e = (k z).bind h) : get1E x rk e K = ((gGet1 M x pk).bind k).bind h := by
  subst hM
  unfold get1E
  rw [hr, Option.bind_some]
  cases gGet1 (sto e) x pk with
  | none => rfl
  | some z => exact p z
end
theorem rdAllP_eq {f g : PV → Option PyData} (h : ∀ p, f p = g p) : ∀ ps, rdAllP f ps = rdAllP g ps
  | [] => rfl
  | p :: ps => by
    unfold rdAllP
    rw [h, rdAllP_eq h ps]
theorem rdAllK_eq {f g : PV → Option PyData} (h : ∀ p, f p = g p) : ∀ ps, rdAllK f ps = rdAllK g ps
  | [] => rfl
  | p :: ps => by
    unfold rdAllK
    rw [h, rdAllK_eq h ps]
theorem rdAllK_dats {M : List MC} {f : Nat} : ∀ {es : List (PyData × PV)} {ds : List (PyData × PyData)}, datsK es = some ds → rdAllK (PV.deep M f) es = some ds
  | [], ds, h => by cases h; rfl
  | (k, .dat d) :: es, ds, h => by
    obtain ⟨e, h3, rfl⟩ := Option.map_eq_some_iff.mp h
    unfold rdAllK
    have : PV.deep M f (.dat d) = some d := by cases f <;> rfl
    rw [this, Option.bind_some, rdAllK_dats h3]
    rfl
  | (_, .ref _) :: _, _, h => by cases h
  | (_, .tup _) :: _, _, h => by cases h
theorem dats_dGet {k : Key} : ∀ {es : List (PyData × PV)} {ds : List (PyData × PyData)}, datsK es = some ds → (dGet ds k).map PV.dat = pvGet es k
  | [], ds, h => by cases h; rfl
  | (q, .dat d) :: es, ds, h => by
    obtain ⟨e, h3, rfl⟩ := Option.map_eq_some_iff.mp h
    have := dats_dGet (k := k) h3
    unfold dGet pvGet at *
    rw [List.find?_cons, List.find?_cons]
    by_cases z : keyOf q = some k
    · simp [z]
    · simp only [z, decide_false]
      exact this
  | (_, .ref _) :: _, _, h => by cases h
  | (_, .tup _) :: _, _, h => by cases h
def lentC (c c' : MC) : Prop := c' = c.knd ∨ ∃ es ds, c = .dct es ∧ datsK es = some ds ∧ c' = .lk ds
theorem lent_of {M M' : List MC} (hl : M'.length = M.length) (h : ∀ (n : Nat) c, M[n]? = some c → ∃ c', M'[n]? = some c' ∧ lentC c c') : Lent M M' := by
  have no : ∀ n : Nat, M[n]? = none → M'[n]? = none := fun n e => by
    rw [List.getElem?_eq_none_iff] at *
    omega
  refine ⟨fun C x f => ?_, fun x i => ?_, fun x k => ?_, fun x => ?_, fun f => ?_⟩
  · cases x with
    | ref n =>
      unfold PV.fld
      cases hc : M[n]? with
      | none => simp only [hc, no n hc]
      | some c =>
        obtain ⟨c', e1, e2⟩ := h n c hc
        simp only [hc, e1]
        rcases e2 with rfl | ⟨es, ds, rfl, _, rfl⟩
        · cases c <;> rfl
        · rfl
    | _ => rfl
  · cases x with
    | ref n =>
      unfold PV.ix
      cases hc : M[n]? with
      | none => simp only [hc, no n hc]
      | some c =>
        obtain ⟨c', e1, e2⟩ := h n c hc
        simp only [hc, e1]
        rcases e2 with rfl | ⟨es, ds, rfl, _, rfl⟩
        · cases c <;> rfl
        · rfl
    | dat d => cases d <;> rfl
    | tup _ => rfl
  · cases x with
    | ref n =>
      unfold PV.dx
      cases hc : M[n]? with
      | none => simp only [hc, no n hc]
      | some c =>
        obtain ⟨c', e1, e2⟩ := h n c hc
        simp only [hc, e1]
        rcases e2 with rfl | ⟨es, ds, rfl, hd, rfl⟩
        · cases c <;> rfl
        · exact congrArg some (dats_dGet hd)
    | dat d => cases d <;> rfl
    | tup _ => rfl
  · cases x with
    | ref n =>
      unfold isDP
      cases hc : M[n]? with
      | none => simp only [hc, no n hc]
      | some c =>
        obtain ⟨c', e1, e2⟩ := h n c hc
        simp only [hc, e1]
        rcases e2 with rfl | ⟨es, ds, rfl, hd, rfl⟩
        · cases c with
          | kn c => cases c <;> rfl
          | _ => rfl
        · rfl
    | dat d => cases d <;> rfl
    | tup _ => rfl
  · induction f with
    | zero => intro x; cases x <;> rfl
    | succ f ih =>
      intro x
      cases x with
      | dat d => rfl
      | tup ps =>
        show (rdAllP _ ps).map _ = (rdAllP _ ps).map _
        rw [rdAllP_eq ih]
      | ref n =>
        unfold PV.deepK PV.deep
        cases hc : M[n]? with
        | none => simp only [hc, no n hc]
        | some c =>
          obtain ⟨c', e1, e2⟩ := h n c hc
          simp only [hc, e1]
          rcases e2 with rfl | ⟨es, ds, rfl, hd, rfl⟩
          · cases c with
            | lst ps => exact congrArg (Option.map PyData.list) (rdAllP_eq ih ps)
            | dct es => exact congrArg (Option.map PyData.dict) (rdAllK_eq ih es)
            | ins C fs => rfl
            | tab x => rfl
            | lk es => rfl
            | kn c =>
              cases c with
              | lst ps => exact congrArg (Option.map PyData.list) (rdAllP_eq ih ps)
              | dct es => exact congrArg (Option.map PyData.dict) (rdAllK_eq ih es)
              | _ => rfl
          · show some (PyData.dict ds) = (rdAllK (PV.deep M f) es).map PyData.dict
            rw [rdAllK_dats hd]
            rfl
theorem lent_none (M : List MC) : Lent M (M.map MC.knd) := lent_of (List.length_map _) fun n c hc => ⟨c.knd, by rw [List.getElem?_map, hc]; rfl, .inl rfl⟩
section
variable {β γ τ : Type} {env e : Sl} {R : Option β} {m ma mb mo mk mv mz : ME} {M M' : List MC}
def lendFK (env : Sl) (r : Res) (K : Res → Sl → Option β) : Option β := if resFlat r = true then K r env else none
theorem c_lendX {K : Res → Sl → Option β} (hM : env[env.length - 1]? = some (.sto M)) (p : ∀ M', Lent M M' → bnd (m (env.map (lentSlotK M'))) (fun r _ => lendFK env r K) = R) : bnd (mLendK none m env) K = R := by
  rw [← p _ (lent_none M)]
  unfold mLendK bnd stoOf lendFK
  rw [hM]
  show ((m _).bind _).bind _ = _
  cases m (env.map (lentSlotK (M.map MC.knd))) with
  | none => rfl
  | some q =>
    simp only [Option.bind_some]
    split <;> rfl
theorem c_lendX2 {m2 : Sl → Option (τ × Sl)} {KK : τ → Sl → Option β} {e2 : Sl} (h : env.map (lentSlotK M') = e2) (k : bnd (m2 e2) KK = R) : bnd (m2 (env.map (lentSlotK M'))) KK = R := by
  rw [h]; exact k
theorem c_lendF {K : Res → Sl → Option β} {r : Res} (h : resFlat r = true) (k : K r env = R) : lendFK env r K = R := by
  unfold lendFK
  rw [if_pos h]
  exact k
theorem c_lendXT {m : MT} {K : Bool → Sl → Option β} (hM : env[env.length - 1]? = some (.sto M)) (p : ∀ M', Lent M M' → bnd (m (env.map (lentSlotK M'))) (fun r _ => K r env) = R) : bnd (mLendKT m env) K = R := by
  rw [← p _ (lent_none M)]
  unfold mLendKT bnd stoOf
  rw [hM]
  show ((m _).bind _).bind _ = _
  cases m (env.map (lentSlotK (M.map MC.knd))) <;> rfl
theorem c_pdxL {K : Res → Sl → Option β} {r : Res} {x : PV} {d : PyData} {h : γ → Option β} {k : PV → Option γ} (hl : Lent M M') (hr : pvR r = some x) (hM : sto e = M') (p : ∀ z, K (.pv z) e = (k z).bind h) : pdxK r (.dat d) e K = ((pPdx M x d).bind k).bind h := by
  have : pPdx M x d = pPdx M' x d := by
    unfold pPdx
    rw [show (fun k => (x.dx M k).bind fun o => o) = fun k => (x.dx M' k).bind fun o => o from funext fun k => by rw [hl.dx]]
  rw [this]
  exact c_pdxK hr hM p
def knK (r : Res) (e : Sl) (K : Res → Sl → Option β) : Option β := (pvR r).bind fun x => (x.deepK (sto e) 9).bind fun d => K (.dat d) e
theorem c_kn {K : Res → Sl → Option β} (k : bnd (m env) (fun r e => knK r e K) = R) : bnd (mKn m env) K = R := by
  rw [← k]; unfold mKn bnd knK
  cases m env with
  | none => rfl
  | some p =>
    simp only [Option.bind_some]
    cases pvR p.1 with
    | none => rfl
    | some x =>
      simp only [Option.bind_some]
      cases x.deepK (sto p.2) 9 <;> rfl
theorem c_knL {K : Res → Sl → Option β} {r : Res} {x : PV} {h : γ → Option β} {k : PyData → Option γ} (hl : Lent M M') (hr : pvR r = some x) (hM : sto e = M') (p : ∀ d, K (.dat d) e = (k d).bind h) : knK r e K = ((PV.deep M 9 x).bind k).bind h := by
  rw [← hl.deep]
  subst hM
  unfold knK
  rw [hr, Option.bind_some]
  cases x.deepK (sto e) 9 with
  | none => rfl
  | some z => exact p z
end
def PV.isN : PV → Bool
  | .dat .none => true
  | _ => false
def mIsNP (neg : Bool) (m : ME) : ME := fun env => (m env).bind fun p => (pvR p.1).map fun x => (.dat (.bool (if neg = true then !x.isN else x.isN)), p.2)
section
variable {X : Cx} {K0 : PySem.W.Frag} {α β γ τ : Type} {env e : Sl} {R : Option β} {m : ME} {M M' : List MC}
theorem pisN_v {K : PySem.W.Frag} {Hk : Kn} {v : V} {p : PV} (h : PvOk K Hk v p) : decide (v = .non) = p.isN := by
  cases h with
  | ref _ => exact decide_eq_false fun z => nomatch z
  | tup _ _ => exact decide_eq_false fun z => nomatch z
  | dat q => cases q <;> first | rfl | exact decide_eq_false fun z => nomatch z
theorem isNP_run {m2 : ME} {σ : L2.St} {H : Hp} {Q : VK} (h : tE K0 (mIsNP false m) σ H Q) : tOp (fun x y H Q => y = .non ∧ Q (.bl (decide (x = .non))) H) (tE K0 m) (fun σ H Q => Q .non H) σ H Q := by
  obtain ⟨B, env, Hk, res, env', R, hm, k⟩ := h
  obtain ⟨⟨r, e1⟩, h1, hm⟩ := Option.bind_eq_some_iff.mp hm
  obtain ⟨x, h2, hm⟩ := Option.map_eq_some_iff.mp hm
  cases hm
  refine ⟨B, env, Hk, r, e1, R, h1, fun v Hk1 H1 R1 s1 o1 => ⟨rfl, ?_⟩⟩
  show Q _ H1
  rw [pisN_v (o1.pvR h2)]
  exact k _ Hk1 H1 R1 s1 (.bl _)
def isNK (neg : Bool) (r : Res) (e : Sl) (K : Res → Sl → Option β) : Option β := (pvR r).bind fun x => K (.dat (.bool (if neg = true then !x.isN else x.isN))) e
theorem c_isNP {neg : Bool} {K : Res → Sl → Option β} (k : bnd (m env) (fun r e => isNK neg r e K) = R) : bnd (mIsNP neg m env) K = R := by
  rw [← k]; unfold mIsNP bnd isNK
  cases m env with
  | none => rfl
  | some p =>
    simp only [Option.bind_some]
    cases pvR p.1 <;> rfl
theorem c_isNPK {neg : Bool} {K : Res → Sl → Option β} {r : Res} {x : PV} (hr : pvR r = some x) (k : K (.dat (.bool (if neg = true then !x.isN else x.isN))) e = R) : isNK neg r e K = R := by
  unfold isNK
  rw [hr, Option.bind_some]
  exact k
end
def mPairsP : List (ME × ME) → Sl → Option (List (PyData × PV) × Sl)
  | [], env => some ([], env)
  | (mk, mv) :: r, env => (mFrz mk env).bind fun p => (mIn mv p.2).bind fun q => match p.1 with
    | .dat k => (pvR q.1).bind fun d => (mPairsP r q.2).map fun z => ((k, d) :: z.1, z.2)
    | _ => none
def keysOkP (es : List (PyData × PV)) : Bool := es.all fun p => (keyOf p.1).isSome
def pvMerge : List (PyData × PV) → List (PyData × PV) → List (PyData × PV)
  | es, [] => es
  | es, p :: r => match keyOf p.1 with
    | some k => pvMerge (pvPut es k p.2) r
    | none => pvMerge es r
def mPDisp (l : List (ME × ME)) : ME := fun env => (mPairsP l env).bind fun p => if keysOkP p.1 = true ∧ p.1.length ≤ 15 then (stoOf p.2).map fun M => (.pv (.ref M.length), stoPut p.2 (M ++ [.dct (pvMerge [] p.1)])) else none
section
variable {X : Cx} {K : PySem.W.Frag} {B : Fb} {env env' : Sl} {σ : L2.St} {Hk Hk' : Kn} {H H' : Hp}
def tPsP (K : PySem.W.Frag) (l : List (ME × ME)) (σ : L2.St) (H : Hp) (Q : List (V × V) → Hp → Prop) : Prop := ∃ B env Hk es env', Rel K B env σ Hk H ∧ mPairsP l env = some (es, env') ∧
  ∀ ps Hk' H', Rel K B env' σ Hk' H' → KSame Hk Hk' → PrsAllP K Hk' ps es → Q ps H'
theorem pairsP_run : ∀ {l : List (ME × ME)} {σ : L2.St} {H : Hp} {Q : List (V × V) → Hp → Prop}, tPsP K l σ H Q → tPairs (l.map fun p => (tE K (mFrz p.1), tE K (mIn p.2))) σ H Q
  | [], σ, H, Q, h => by
    obtain ⟨B, env, Hk, es, env', R, hm, k⟩ := h
    cases hm
    exact k [] Hk H R (.refl _) .nil
  | (mk, mv) :: r, σ, H, Q, h => by
    obtain ⟨B, env, Hk, es, env', R, hm, k⟩ := h
    obtain ⟨⟨x, e1⟩, h1, hm⟩ := Option.bind_eq_some_iff.mp hm
    obtain ⟨⟨y, e2⟩, h2, hm⟩ := Option.bind_eq_some_iff.mp hm
    cases x with
    | dat dk =>
      obtain ⟨d, h4, hm⟩ := Option.bind_eq_some_iff.mp hm
      obtain ⟨⟨es', e3⟩, h3, hm⟩ := Option.map_eq_some_iff.mp hm
      cases hm
      refine ⟨B, env, Hk, .dat dk, e1, R, h1, fun v Hk1 H1 R1 s1 o1 => ?_⟩
      refine ⟨B, e1, Hk1, y, e2, R1, h2, fun w Hk2 H2 R2 s2 o2 => ?_⟩
      refine pairsP_run ⟨B, e2, Hk2, es', _, R2, h3, fun ps Hk3 H3 R3 s3 o3 => ?_⟩
      exact k _ Hk3 H3 R3 ((s1.trans s2).trans s3) (.cons (dv_mono (s2.trans s3).s _ _ o1) ((o2.pvR h4).mono s3) o3)
    | _ => cases hm
theorem prs_kvP : ∀ {ps : List (V × V)} {es : List (PyData × PV)}, PrsAllP K Hk ps es → keysOkP es = true → ∃ kvs : List (Key × V), ps = kvs.map (fun kv => (kV kv.1, kv.2)) ∧ PvKv K Hk kvs es
  | _, _, .nil, _ => ⟨[], rfl, .nil⟩
  | _, _, .cons (k := k) (d := d) h1 h2 h3, h => by
    unfold keysOkP at h
    rw [List.all_cons, Bool.and_eq_true] at h
    obtain ⟨kvs, e, q⟩ := prs_kvP h3 h.2
    obtain ⟨kk, hk⟩ := Option.isSome_iff_exists.mp h.1
    have hkd : k = keyD kk := by
      cases k with
      | int i => cases hk; rfl
      | str x => cases hk; rfl
      | _ => cases hk
    have hv := View.key (K := K) (Hk := Hk.k) (H := Hk.k) (.inl h1) hk
    subst hkd hv
    exact ⟨(kk, _) :: kvs, by rw [e]; rfl, .cons h2 q⟩
theorem pvKv_merge : ∀ {more : List (Key × V)} {ms : List (PyData × PV)}, PvKv K Hk more ms → ∀ {kvs : List (Key × V)} {es : List (PyData × PV)}, PvKv K Hk kvs es → PvKv K Hk (mergeK kvs more) (pvMerge es ms)
  | _, _, .nil, kvs, es, h => h
  | _, _, .cons (k := k) (v := v) h1 h2, kvs, es, h => by
    unfold pvMerge
    simp only [keyOf_keyD]
    exact pvKv_merge h2 (pvKv_put k h1 h)
theorem pdisp_run {l : List (ME × ME)} {Q : VK} (h : tE K (mPDisp l) σ H Q) : tDisp (l.map fun p => (tE K (mFrz p.1), tE K (mIn p.2))) σ H Q := by
  obtain ⟨B, env, Hk, res, env', R, hm, k⟩ := h
  obtain ⟨⟨es, e1⟩, h1, hm⟩ := Option.bind_eq_some_iff.mp hm
  dsimp only at hm
  split at hm
  · rename_i hz
    obtain ⟨M, h2, hm⟩ := Option.map_eq_some_iff.mp hm
    cases hm
    intro p hp
    refine pairsP_run ⟨B.hold p (.dK []), env, Hk, es, _, R.hold hp, h1, fun ps Hk1 H1 R1 s1 o1 => ?_⟩
    obtain ⟨R2, hH, hkn, hP, hn⟩ := R.held hp R1
    obtain ⟨kvs, e2, q⟩ := prs_kvP o1 hz.1
    refine ⟨hH, kvs, e2, by rw [pvKv_len q]; exact hz.2, ?_⟩
    have R3 := R2.other (u := .dK (mergeK [] kvs)) hkn (R.fresh0 hp) hP (fun x z => by rw [hH] at z; cases z) hn
    obtain ⟨R4, s4, o4⟩ := R3.stoTake (M := M) (stoOf_has h2) hkn (R.fresh0 hp) hP hn (c := .dct (pvMerge [] es)) ⟨_, upd_same, pvKv_merge q .nil⟩ trivial
    exact k _ _ _ R4 (s1.trans s4) o4
  · cases hm
theorem VPs.ppsP {pos : Pos} : ∀ {ks : List (Option Expr)} {vs : List Expr} {l : List (ME × ME)}, VPs X ks vs l → PPs X pos ks vs (l.map fun p => (tE X.K (mFrz p.1), tE X.K (mIn p.2)))
  | _, _, _, .nil => pps_nil
  | _, _, _, .cons h1 h2 h3 => pps_cons (ve_frz h1) (ve_in h2) (VPs.ppsP h3)
theorem ve_pdisp {pos : Pos} {ks : List (Option Expr)} {vs : List Expr} {l : List (ME × ME)} (h : VPs X ks vs l) (hall : ks.all (·.isSome) = true := by rfl) (hl : ks.length = vs.length := by rfl) (h0 : ks ≠ [] := by exact List.cons_ne_nil _ _) (h15 : ks.length ≤ 15 := by decide) : VE X (.Dict ks vs pos) (mPDisp l) :=
  (pe_disp h.ppsP hall hl h0 h15).imp fun _ _ _ => pdisp_run
end
section
variable {α β γ τ : Type} {env e : Sl} {R : Option β} {m mo mk : ME} {M M' : List MC} {l : List (ME × ME)}
def keysN (ks : List PyData) : Bool := ks.all (fun k => (keyOf k).isSome) && decide ((ks.map keyOf).Nodup)
theorem pvPut_new {es : List (PyData × PV)} {k : Key} {v : PV} (h : ∀ p ∈ es, keyOf p.1 ≠ some k) : pvPut es k v = es ++ [(keyD k, v)] := by
  unfold pvPut
  rw [if_neg]
  simp only [List.any_eq_true, decide_eq_true_eq, not_exists, not_and]
  exact fun p hp => h p hp
theorem keyD_of {d : PyData} {k : Key} (h : keyOf d = some k) : keyD k = d := by
  cases d with
  | int i => cases h; rfl
  | str x => cases h; rfl
  | _ => cases h
theorem pvMerge_new : ∀ {es acc : List (PyData × PV)}, keysOkP es = true → ((acc ++ es).map fun p => keyOf p.1).Nodup → pvMerge acc es = acc ++ es
  | [], acc, _, _ => by rw [List.append_nil]; rfl
  | (d, v) :: es, acc, hk, hn => by
    unfold keysOkP at hk
    rw [List.all_cons, Bool.and_eq_true] at hk
    obtain ⟨k, hkk⟩ := Option.isSome_iff_exists.mp hk.1
    have hkk : keyOf d = some k := hkk
    unfold pvMerge
    simp only [hkk]
    rw [pvPut_new, keyD_of hkk, pvMerge_new (es := es) hk.2, List.append_assoc]
    · rfl
    · rw [List.append_assoc]
      exact hn
    · intro p hp e
      rw [List.map_append, List.nodup_append] at hn
      refine hn.2.2 (keyOf p.1) (List.mem_map_of_mem hp) (keyOf d) (by simp) ?_
      rw [e, hkk]
theorem pvMerge_keys {es : List (PyData × PV)} {ks : List PyData} (h : es.map (·.1) = ks) (hk : keysN ks = true) : keysOkP es = true ∧ pvMerge [] es = es := by
  subst h
  unfold keysN at hk
  rw [Bool.and_eq_true] at hk
  have h1 : keysOkP es = true := by
    unfold keysOkP
    rw [List.all_map] at hk
    exact hk.1
  refine ⟨h1, ?_⟩
  have := pvMerge_new (acc := []) h1 (by
    have := of_decide_eq_true hk.2
    rw [List.map_map] at this
    exact this)
  rw [this]
  rfl
def bndQ (x : Option (List (PyData × PV) × Sl)) (K : List (PyData × PV) → Sl → Option β) : Option β := x.bind fun p => K p.1 p.2
def pdispK (es : List (PyData × PV)) (e : Sl) (K : Res → Sl → Option β) : Option β := if keysOkP es = true ∧ es.length ≤ 15 then (stoOf e).bind fun M => K (.pv (.ref M.length)) (stoPut e (M ++ [.dct (pvMerge [] es)])) else none
theorem c_pdisp {K : Res → Sl → Option β} (k : bndQ (mPairsP l env) (fun es e => pdispK es e K) = R) : bnd (mPDisp l env) K = R := by
  rw [← k]; unfold mPDisp bnd bndQ pdispK
  cases mPairsP l env with
  | none => rfl
  | some p =>
    simp only [Option.bind_some]
    split
    · cases stoOf p.2 <;> rfl
    · rfl
theorem c_qnil {K : List (PyData × PV) → Sl → Option β} (k : K [] env = R) : bndQ (mPairsP [] env) K = R := k
def qpairK (r1 r2 : Res) (l : List (ME × ME)) (e : Sl) (K : List (PyData × PV) → Sl → Option β) : Option β := match r1 with
  | .dat k => (pvR r2).bind fun d => bndQ (mPairsP l e) fun es e => K ((k, d) :: es) e
  | _ => none
theorem c_qcons {K : List (PyData × PV) → Sl → Option β} {mk mv : ME} (k : bnd (mFrz mk env) (fun r1 e1 => bnd (mIn mv e1) fun r2 e2 => qpairK r1 r2 l e2 K) = R) : bndQ (mPairsP ((mk, mv) :: l) env) K = R := by
  rw [← k]; unfold bndQ bnd
  simp only [mPairsP]
  cases mFrz mk env with
  | none => rfl
  | some p =>
    simp only [Option.bind_some]
    cases mIn mv p.2 with
    | none => rfl
    | some q =>
      simp only [Option.bind_some]
      cases p with
      | mk r1 e1 =>
        cases r1 with
        | dat k =>
          simp only [qpairK]
          cases pvR q.1 with
          | none => rfl
          | some d =>
            simp only [Option.bind_some, bndQ]
            cases mPairsP l q.2 <;> rfl
        | _ => rfl
theorem c_qconsK {K : List (PyData × PV) → Sl → Option β} {kd : PyData} {r : Res} {d : PV} (hr : pvR r = some d) (k : bndQ (mPairsP l e) (fun es e => K ((kd, d) :: es) e) = R) : qpairK (.dat kd) r l e K = R := by
  show ((pvR r).bind fun d => bndQ (mPairsP l e) fun es e => K ((kd, d) :: es) e) = R
  rw [hr, Option.bind_some]
  exact k
theorem c_pdispK {K : Res → Sl → Option β} {es : List (PyData × PV)} {h : γ → Option β} {k : List MC → Option γ} (ks : List PyData) (E : List MC → Sl) (hs : es.map (·.1) = ks) (hk : keysN ks = true) (h15 : es.length ≤ 15) (hM : e[e.length - 1]? = some (.sto M)) (hE : ∀ M', stoPut e M' = E M') (p : ∀ M', K (.pv (.ref M.length)) (E M') = (k M').bind h) : pdispK es e K = ((some (M ++ [MC.dct es])).bind k).bind h := by
  obtain ⟨h1, h2⟩ := pvMerge_keys hs hk
  unfold pdispK stoOf
  rw [if_pos ⟨h1, h15⟩, hM]
  simp only [Option.bind_some, hE, h2]
  exact p _
end
section
variable {X : Cx} {m : ME} {a : Expr}
theorem vt_isNP {j : Nat} {p2 pos : Pos} (h : VE X a m) : VT X (.Compare a [.Is] [.Constant .none j p2] pos) (mTest (mIsNP false m)) := (pt_cmpR op_isN h pe_non (nomark _)).imp fun _ _ _ h => isNP_run (m2 := m) (test_run h)
end
end Cm
namespace Cm
open PySem PySem.Spec PyProof.Rows L2
section
variable {X : Cx} {K : PySem.W.Frag} {B : Fb} {env : Sl} {σ : L2.St} {Hk : Kn} {H : Hp}
theorem TabAt.uniq {x : Str} {a b : Addr} (h : TabAt K x a) (g : TabAt K x b) : a = b := by
  obtain ⟨_, _, _, _, c, _, _, _, _, h1, h2, h3, h4⟩ := h
  obtain ⟨_, _, _, _, c', _, _, _, _, g1, g2, g3, g4⟩ := g
  rw [h1] at g1
  cases g1
  rw [h2] at g2
  cases g2
  rw [h3] at g3
  cases g3
  rw [h4] at g4
  cases g4
  rfl
end
end Cm
namespace Cm
open PySem L2
section
variable {X : Cx} {K : PySem.W.Frag} {m ma mb : ME}
def partsP (M : List MC) : PV → Option (List PV)
  | .ref n => match M[n]? with
    | some (.lst ps) => some ps
    | _ => none
  | _ => none
end
end Cm
namespace Cm
open PySem PySem.Spec PyProof.Rows L2
def ZipT3 (N : Nat) (c d e : Sc) (xs ys zs : List V) (i : Nat) (h : Heap) : Prop :=
  i ≤ min (min xs.length ys.length) zs.length ∧ IsZip h (N + 5) (N + 3) (N + 4) .none ∧ IsTupOf3 h (N + 3) (.ref N) (.ref (N + 1)) (.ref (N + 2)) ∧ (∃ x y z, IsTupOf3 h (N + 4) x y z) ∧ c.it h N i ∧ d.it h (N + 1) i ∧ e.it h (N + 2) i
theorem ZipT3.lt {N : Nat} {c d e : Sc} {xs ys zs : List V} {i : Nat} {h : Heap} (st : ZipT3 N c d e xs ys zs i h) : N + 5 < h.objs.size := Heap.lt_size st.2.1
end Cm
namespace Cm
open PySem L2
def sortPK (ps : List PV) (ks : List PyData) : List PV := ((ps.zip ks).mergeSort (PySem.W.dataLe false (fun b : PV × PyData => b.2))).map (·.1)
theorem zip_mid {α β γ : Type} : ∀ (vs : List α) (ps : List β) (qs : List γ), ps.length = vs.length → (vs.zip (ps.zip qs)).map (fun b => (b.1, b.2.2)) = vs.zip qs
  | [], _, _, _ => by simp
  | v :: vs, [], _, h => by simp at h
  | v :: vs, p :: ps, [], _ => by simp
  | v :: vs, p :: ps, q :: qs, h => by
    simp only [List.zip_cons_cons, List.map_cons]
    rw [zip_mid vs ps qs (by simpa using h)]
theorem zip_fst2 {α β γ δ : Type} : ∀ (vs : List α) (ps : List β) (ds : List γ) (ks : List δ), ps.length = vs.length → ds.length = vs.length → ks.length = vs.length → (vs.zip (ps.zip (ds.zip ks))).map (fun b => (b.2.1, b.2.2.2)) = ps.zip ks
  | [], [], _, _, _, _, _ => by simp
  | [], _ :: _, _, _, h, _, _ => by simp at h
  | v :: vs, [], _, _, h, _, _ => by simp at h
  | v :: vs, p :: ps, [], _, _, h, _ => by simp at h
  | v :: vs, p :: ps, d :: ds, [], _, _, h => by simp at h
  | v :: vs, p :: ps, d :: ds, k :: ks, h1, h2, h3 => by
    simp only [List.zip_cons_cons, List.map_cons]
    rw [zip_fst2 vs ps ds ks (by simpa using h1) (by simpa using h2) (by simpa using h3)]
section
variable {K : PySem.W.Frag} {Hk : Kn}
theorem pvAll_zip : ∀ {vs : List V} {ps : List PV} {γ : Type} {qs : List γ}, PvAll K Hk vs ps → ∀ z ∈ vs.zip (ps.zip qs), PvOk K Hk z.1 z.2.1
  | _, _, _, qs, .nil, z, hz => by simp at hz
  | _, _, _, [], .cons _ _, z, hz => by simp at hz
  | _, _, _, q :: qs, .cons h1 h2, z, hz => by
    simp only [List.zip_cons_cons, List.mem_cons] at hz
    rcases hz with rfl | hz
    · exact h1
    · exact pvAll_zip h2 z hz
theorem pvAll_of {τ : Type} {f : τ → V} {g : τ → PV} : ∀ {l : List τ}, (∀ z ∈ l, PvOk K Hk (f z) (g z)) → PvAll K Hk (l.map f) (l.map g)
  | [], _ => .nil
  | z :: l, h => .cons (h z List.mem_cons_self) (pvAll_of fun y hy => h y (List.mem_cons_of_mem _ hy))
theorem sortPK_pv {vs : List V} {ps : List PV} {ds ks : List PyData} (h : PvAll K Hk vs ps) (h1 : ds.length = vs.length) (h2 : ks.length = vs.length) :
    PvAll K Hk (((vs.zip (ds.zip ks)).mergeSort (PySem.W.dataLe false (fun b : V × PyData × PyData => b.2.2))).map (·.1)) (sortPK ps ks) := by
  have hl : ps.length = vs.length := h.len.symm
  have e1 : ((vs.zip (ps.zip (ds.zip ks))).mergeSort (PySem.W.dataLe false (fun b : V × PV × PyData × PyData => b.2.2.2))).map (fun b => (b.1, b.2.2)) = (vs.zip (ds.zip ks)).mergeSort (PySem.W.dataLe false (fun b : V × PyData × PyData => b.2.2)) := by
    refine (List.map_mergeSort (r := PySem.W.dataLe false (fun b : V × PV × PyData × PyData => b.2.2.2)) (s := PySem.W.dataLe false (fun b : V × PyData × PyData => b.2.2)) (f := fun b : V × PV × PyData × PyData => (b.1, b.2.2)) (l := vs.zip (ps.zip (ds.zip ks))) (fun a _ b _ => rfl)).trans ?_
    rw [zip_mid vs ps _ hl]
  have e2 : ((vs.zip (ps.zip (ds.zip ks))).mergeSort (PySem.W.dataLe false (fun b : V × PV × PyData × PyData => b.2.2.2))).map (fun b => (b.2.1, b.2.2.2)) = (ps.zip ks).mergeSort (PySem.W.dataLe false (fun b : PV × PyData => b.2)) := by
    refine (List.map_mergeSort (r := PySem.W.dataLe false (fun b : V × PV × PyData × PyData => b.2.2.2)) (s := PySem.W.dataLe false (fun b : PV × PyData => b.2)) (f := fun b : V × PV × PyData × PyData => (b.2.1, b.2.2.2)) (l := vs.zip (ps.zip (ds.zip ks))) (fun a _ b _ => rfl)).trans ?_
    rw [zip_fst2 vs ps ds ks hl h1 h2]
  unfold sortPK
  rw [← e1, ← e2, List.map_map, List.map_map]
  exact pvAll_of (f := (fun b : V × PV × PyData × PyData => b.1)) (g := (fun b : V × PV × PyData × PyData => b.2.1)) fun z hz => pvAll_zip h z ((List.mergeSort_perm _ _).mem_iff.mp hz)
end
def sortRkP (M : List MC) (x : PV) : Option (List PV) := (partsP M x).bind fun ps => (x.deep M 9).bind fun d => match d with
  | .list ds => (keysBy rankD ds).bind fun ks => if PyData.canLayAll0 ds = true ∧ sortB ks = true then some (sortPK ps ks) else none
  | _ => none
section
variable {X : Cx} {K : PySem.W.Frag} {m : ME}
def mSortRkP (m : ME) : ME := fun env => (m env).bind fun p => (pvR p.1).bind fun x => (stoOf p.2).bind fun M => (sortRkP M x).map fun ps => (.pv (.ref M.length), stoPut p.2 (M ++ [.lst ps]))
theorem sortRkP_run {f : Addr} {σ : L2.St} {H : Hp} {Q : VK} (h : tE K (mSortRkP m) σ H Q) : tCKw (rSortRk K f) (tCons (tE K m) tNil) (tCons (tC (.ref f)) tNil) σ H Q := by
  obtain ⟨B, env, Hk, res, env', R, hm, k⟩ := h
  obtain ⟨⟨x, e1⟩, h1, hm⟩ := Option.bind_eq_some_iff.mp hm
  obtain ⟨px, h2, hm⟩ := Option.bind_eq_some_iff.mp hm
  obtain ⟨M, h6, hm⟩ := Option.bind_eq_some_iff.mp hm
  obtain ⟨qs, h7, hm⟩ := Option.map_eq_some_iff.mp hm
  cases hm
  have h6 : stoOf e1 = some M := h6
  refine ⟨B, env, Hk, x, e1, R, h1, fun v Hk1 H1 R1 s1 o1 => ?_⟩
  have ox := o1.pvR h2
  obtain ⟨ps, h8, h7⟩ := Option.bind_eq_some_iff.mp h7
  obtain ⟨d, h9, h7⟩ := Option.bind_eq_some_iff.mp h7
  have hS : HasSto e1 M := stoOf_has h6
  have dv : Dv K H1 v d := R1.deepP R1.ex (fun _ _ _ _ _ _ => rfl) 9 ox (by rw [hS.sto]; exact h9)
  cases px with
  | ref n =>
    cases hc : M[n]? with
    | none => unfold partsP at h8; simp only [hc] at h8; cases h8
    | some q =>
      cases q with
      | lst ps0 =>
        have h8 : some ps0 = some ps := by
          unfold partsP at h8
          simp only [hc] at h8
          exact h8
        cases h8
        have hc' : (sto e1)[n]? = some (.lst ps) := by rw [hS.sto]; exact hc
        obtain ⟨a, vs, rfl, g1, g2, g3⟩ := R1.lstP ox hc'
        cases d with
        | list ds =>
          have h7 : ((keysBy rankD ds).bind fun ks => if PyData.canLayAll0 ds = true ∧ sortB ks = true then some (sortPK ps ks) else none) = some qs := h7
          obtain ⟨ks, h10, h7⟩ := Option.bind_eq_some_iff.mp h7
          split at h7
          · rename_i hz
            cases h7
            cases dv with
            | lst q1 q2 =>
              rw [g2] at q1
              cases q1
              have l1 := q2.len
              have l2 := keysBy_len h10
              show rSortRk K f [V.ref a] [V.ref f] H1 Q
              refine ⟨a, vs, ds, ks, rfl, rfl, SqL.of g2, q2, hz.1, h10, hz.2, fun p hp => ?_⟩
              have R5 : Rel K B e1 σ Hk1 (upd H1 p (.lst (((vs.zip (ds.zip ks)).mergeSort (PySem.W.dataLe false (fun b : V × PyData × PyData => b.2.2))).map (·.1)))) := R1.laid hp
              obtain ⟨R6, s6, q6⟩ := R5.stoTake (M := M) hS (R1.kfree hp) (R1.fresh0 hp) (R1.pfree hp) (fun j s hj hm => R1.mutNe hp hj hm) (c := .lst (sortPK ps ks)) ⟨_, upd_same, sortPK_pv g3 (by omega) (by omega)⟩ trivial
              exact k _ _ _ R6 (s1.trans s6) q6
          · cases h7
        | _ => cases h7
      | _ => unfold partsP at h8; simp only [hc] at h8; cases h8
  | _ => cases h8
theorem ve_sortRkP {name qual x y : Str} {params : Arguments} {scope : Scope} {f : Addr} {fd : FuncData} {a : Expr} {body : List Stmt} {p q1 q2 q3 q4 q5 p1 p2 p3 p4 : Pos} {x1} {k : Nat} {m : ME}
    (F : FunD X.K name qual params body scope [] [] f fd) (S : FnScope [x] [x] scope) (hr : Room k X.A) (hms : X.mg "sorted" = none) (hml : X.mg "len" = none) (hmg : X.mg y = some (.ref f)) (ha : VE X a m)
    (hbody : body = [.Return (some (.Tuple [.Call (.Name "len" q1) [.Name x q2] [] q3, .Name x q4] x1 q5)) p] := by rfl)
    (hb : ∀ (u kV doc pm : Value) (an : Option Addr) (cdv ct : Value), bindArgs (PySem.W.fnOf name qual params body scope .none kV doc pm an cdv ct) ⟨[u], []⟩ = pure [(x, u)] := by intros; rfl)
    (hc : ∀ y ∈ scope.names, y.2 ≠ .cell := by decide +kernel) (hlen : scope.names.lookup ("len" : Str) = some .globalImplicit := by rfl) (hg : Gl X "sorted" := by rfl) (hgy : Gl X y := by rfl) (hdb : (y == ("__debug__" : Str)) = false := by decide) (hdx : (x == ("__debug__" : Str)) = false := by decide)
    (hs : starEach [a] X.env = (false, eval a X.env) :: starEach [] X.env := by rfl) (hbt : bootBuiltins "sorted" = some (.builtin "sorted") := by decide +kernel)
    (he : backTo p2 (starEach [a] X.env) = (false, eval a X.env) :: backTo p2 (starEach [] X.env) := by rfl) (hpl : (backTo p2 (starEach [a] X.env)).any (·.1) = false := by rfl) :
    VE X (.Call (.Name "sorted" p1) [a] [⟨some "key", .Name y p3, p4⟩] p2) (mSortRkP m) := by
  subst hbody
  exact (pe_callBK (cr_sortRk F S hb hc hlen hml hdx hr) hg hms hbt (pa_cons ha pa_nil hs) (pk_cons (pe_glob (v := .ref f) hgy hmg rfl hdb) pk_nil) (by decide) (by decide) he hpl).imp fun _ _ _ => sortRkP_run
end
section
variable {β γ : Type} {env e : Sl} {R : Option β} {m : ME} {K : Res → Sl → Option β} {M : List MC}
def sortRkPK (r : Res) (e : Sl) (K : Res → Sl → Option β) : Option β := (pvR r).bind fun x => (stoOf e).bind fun M => (sortRkP M x).bind fun ps => K (.pv (.ref M.length)) (stoPut e (M ++ [.lst ps]))
theorem c_sortRkP (k : bnd (m env) (fun r e => sortRkPK r e K) = R) : bnd (mSortRkP m env) K = R := by
  rw [← k]; unfold mSortRkP bnd sortRkPK
  cases m env with
  | none => rfl
  | some p =>
    simp only [Option.bind_some]
    cases pvR p.1 with
    | none => rfl
    | some x =>
      simp only [Option.bind_some]
      cases stoOf p.2 with
      | none => rfl
      | some M =>
        simp only [Option.bind_some]
        cases sortRkP M x <;> rfl
theorem c_sortRkPK {r : Res} {x : PV} {E : List MC → Sl} {k : List MC → Option γ} {h : γ → Option β} (hx : pvR r = some x) (hM : stoOf e = some M) (hE : ∀ M', stoPut e M' = E M') (p : ∀ M', K (.pv (.ref M.length)) (E M') = (k M').bind h) : sortRkPK r e K = (((sortRkP M x).map fun ps => M ++ [.lst ps]).bind k).bind h := by
  unfold sortRkPK
  rw [hx, Option.bind_some, hM, Option.bind_some]
  cases sortRkP M x with
  | none => rfl
  | some ps =>
    show K (.pv (.ref M.length)) (stoPut e (M ++ [.lst ps])) = _
    rw [hE]
    exact p _
end
end Cm
namespace Lw
open PySem L2 Cm
noncomputable section
variable {P : Program} {w : World} {K : PySem.W.Frag} {mg : Str → Option Value} {base : Heap} {fd : Nat → FuncData}
theorem bi_w_folded (T : Tx w K mg fd) : Binds K (fd 0) ["_law_script", "_law_size"] [] := T.F_w_folded.bindsN fun _ _ _ _ _ _ us hl => match us, hl with | [_, _], _ => rfl
theorem bi_w_box (T : Tx w K mg fd) : Binds K (fd 1) ["_law_script", "_law_k"] [] := T.F_w_box.bindsN fun _ _ _ _ _ _ us hl => match us, hl with | [_, _], _ => rfl
theorem bi_w_take (T : Tx w K mg fd) : Binds K (fd 2) ["_law_box_here", "_law_many"] [] := T.F_w_take.bindsN fun _ _ _ _ _ _ us hl => match us, hl with | [_, _], _ => rfl
theorem bi_w_names (T : Tx w K mg fd) : Binds K (fd 3) ["_law_box_here", "_law_many"] [] := T.F_w_names.bindsN fun _ _ _ _ _ _ us hl => match us, hl with | [_, _], _ => rfl
theorem bi_w_strewn (T : Tx w K mg fd) : Binds K (fd 4) ["_law_box_here", "_law_some"] [] := T.F_w_strewn.bindsN fun _ _ _ _ _ _ us hl => match us, hl with | [_, _], _ => rfl
theorem bi_w_ways (T : Tx w K mg fd) : Binds K (fd 5) ["_law_box_here", "_law_camps", "_law_many"] [] := T.F_w_ways.bindsN fun _ _ _ _ _ _ us hl => match us, hl with | [_, _, _], _ => rfl
theorem bi_w_map (T : Tx w K mg fd) : Binds K (fd 6) ["_law_box_here", "_law_most"] [] := T.F_w_map.bindsN fun _ _ _ _ _ _ us hl => match us, hl with | [_, _], _ => rfl
theorem bi_w_rows_from (T : Tx w K mg fd) : Binds K (fd 7) ["_law_ways_here", "_law_camp"] [] := T.F_w_rows_from.bindsN fun _ _ _ _ _ _ us hl => match us, hl with | [_, _], _ => rfl
theorem bi_both_ends (T : Tx w K mg fd) : Binds K (fd 8) ["row"] [] := T.F_both_ends.bindsN fun _ _ _ _ _ _ us hl => match us, hl with | [_], _ => rfl
theorem bi_heights_of (T : Tx w K mg fd) : Binds K (fd 9) ["ways", "camp"] [] := T.F_heights_of.bindsN fun _ _ _ _ _ _ us hl => match us, hl with | [_, _], _ => rfl
theorem bi_rows_into (T : Tx w K mg fd) : Binds K (fd 10) ["ways", "height_by", "row_by", "camp"] [] := T.F_rows_into.bindsN fun _ _ _ _ _ _ us hl => match us, hl with | [_, _, _, _], _ => rfl
theorem bi_least_row (T : Tx w K mg fd) : Binds K (fd 11) ["ways", "camp", "other"] [] := T.F_least_row.bindsN fun _ _ _ _ _ _ us hl => match us, hl with | [_, _, _], _ => rfl
theorem bi_w_same (T : Tx w K mg fd) : Binds K (fd 12) ["_law_found", "_law_due"] [] := T.F_w_same.bindsN fun _ _ _ _ _ _ us hl => match us, hl with | [_, _], _ => rfl
theorem bi_w_walked (T : Tx w K mg fd) : Binds K (fd 13) ["_law_ways_here", "_law_camp", "_law_row"] [] := T.F_w_walked.bindsN fun _ _ _ _ _ _ us hl => match us, hl with | [_, _, _], _ => rfl
theorem bi_law (T : Tx w K mg fd) : Binds K (fd 14) ["_law_script"] [] := T.F_law.bindsN fun _ _ _ _ _ _ us hl => match us, hl with | [_], _ => rfl
theorem bi_row_rank (T : Tx w K mg fd) : Binds K (fd 15) ["row"] [] := T.F_row_rank.bindsN fun _ _ _ _ _ _ us hl => match us, hl with | [_], _ => rfl
def m_w_folded_b1 : MS := (mAft [3, 4] (mAsg (mOp gAdd (mOp gIx (mName 2) (mOp gMod (mName 3) (mName 1))) (mOp gMul (mName 4) (mOp gAdd (mName 3) (mC (.int 2))))) (mgSub 2 (mOp gMod (mName 3) (mName 1)))))
def P_w_folded_b2 (size : Int) (xx : (Int × Int)) (ss : (List Int)) : Option (List Int) :=
  (pMod xx.1 size).bind fun t2 =>
  (pIx ss t2).bind fun t3 =>
  (pMul xx.2 (xx.1 + 2)).bind fun t4 =>
  (pMod xx.1 size).bind fun t5 =>
  (pSet ss t5 (t3 + t4)).bind fun cells6 =>
  some cells6
theorem s_w_folded_b2 (o0 : Slot) (size : Int) (xx : (Int × Int)) (ss : (List Int)) : ((mgTup (mgCons (mgName 3) (mgCons (mgName 4) mgNil))) ((eT2 eI eI) xx) [o0, .val (eI size), .own (.lst (ss.map eI)), .no, .no]).bind m_w_folded_b1 = (P_w_folded_b2 size xx ss).map (outN (fun ss : (List Int) => [o0, .val (eI size), .own (.lst (ss.map eI)), .no, .no])) := c_body (by
  unfold P_w_folded_b2 m_w_folded_b1
  walk_at "~gtup gcons"
  refine c_gname (e2 := [o0, .val (eI size), .own (.lst (ss.map eI)), .val (eI xx.1), .no]) rfl ?_
  walk_at "~gcons"
  refine c_gname (e2 := [o0, .val (eI size), .own (.lst (ss.map eI)), .val (eI xx.1), .val (eI xx.2)]) rfl ?_
  walk_at "~gnil aft asg op op nameO:1 op nameV:1 nameV:1 opK:2"
  refine c_cal x_mod fun t2 => ?_
  walk_at "~opK:2"
  refine c_cal (x_ix (e := eI) (l := ss)) fun t3 => ?_
  walk_at "~op nameV:1 op nameV:1 c opK:2"
  refine c_pur x_add ?_
  walk_at "~opK:2"
  refine c_cal x_mul fun t4 => ?_
  walk_at "~opK:2"
  refine c_pur x_add ?_
  walk_at "~frzD asgK gsub:1 op nameV:1 nameV:1 opK:2"
  refine c_cal x_mod fun t5 => ?_
  refine c_gsubP eI ss (t3 + t4) (fun cells6 => [o0, .val (eI size), .own (.lst (cells6.map eI)), .val (eI xx.1), .val (eI xx.2)]) rfl (fun _ => rfl) fun cells6 => ?_
  refine c_aftN (e2 := [o0, .val (eI size), .own (.lst (cells6.map eI)), .no, .no]) rfl ?_
  exact rfl)
def m_w_folded : MS := (mSeq (mSet 2 (mCB gList (mCons (mSlScr 0 mNoPart (mPart (mName 1))) mNil)))
    (mSeq (mBef [3, 4] (mFor (mEnum (mCons (mFrz (mSlScr 0 (mPart (mName 1)) (mPart (mC (.int 63))))) mNil)) (mgTup (mgCons (mgName 3) (mgCons (mgName 4) mgNil))) m_w_folded_b1))
    (mRetW [0, 1, 2, 3, 4] (mName 2))))
def fm_w_folded : FM := fmOf 2 5 m_w_folded
theorem ok_w_folded (T : Tx w K mg fd) : FnOk P w K mg base CX0 1 (He.ga K "_law_folded") (fd 0) ["_law_script", "_law_size"] (spF K fm_w_folded) :=
  fn_ok T.F_w_folded sc_w_folded fun cdv A outer s H E hr => (show VSs _ _ m_w_folded from (vs_cons (vs_set (i := 2) sc_w_folded.nd (ve_callTy call_list_of cd_list (by rfl) T.b_list (by decide +kernel) (va_cons (ve_sliceScr 0 vo_none (vo_some (ve_name 1))) va_nil)))
      (vs_cons (vs_bef (ws := [3, 4]) (vs_for PassesOwn.never (vi_enum T.b_enumerate (va_cons (ve_frz (ve_sliceScr 0 (vo_some (ve_name 1)) (vo_some ve_int))) va_nil)) (vg_tup (vgs_cons (vg_name (j := 3) sc_w_folded.nd) (vgs_cons (vg_name (j := 4) sc_w_folded.nd) vgs_nil)) (mgcons_len (mgcons_len mgnil_len))) (vs_aft (ws := [3, 4]) (vs_one (vs_asg (ve_op or_add od_add (ve_ix ix_seq od_ix (ve_name 2) (ve_op op_mod od_mod (ve_name 3) (ve_name 1)) (fun _ _ => rfl)) (ve_op or_mul od_mul (ve_name 4) (ve_op or_add od_add (ve_name 3) ve_int))) (vg_sub (i := 2) (ve_op op_mod od_mod (ve_name 3) (ve_name 1))))))))
      (vs_one (vs_retW (ve_name 2))))))
def P_w_folded (script : List Int) (size : Int) : Option (List Int) :=
  (some (cutL script none (some size))).bind fun cells1 =>
  (forP (P_w_folded_b2 size) (enumI 0 (cutL script (some size) (some 63))) cells1).bind fun s7 =>
  some s7
theorem q_w_folded (script : List Int) (size : Int) : fm_w_folded [.scr script, .val (eI size)] = (P_w_folded script size).map fun z => (.new (.lst (z.map eI)), [.no, .no]) := by
  unfold fm_w_folded m_w_folded P_w_folded
  refine c_fm (oR := fun z : (List Int) => .new (.lst (z.map eI))) (eR := fun z => [.no, .no, .no, .no, .no]) [.scr script, .val (eI size), .no, .no, .no] rfl rfl ?_ (fun _ => rfl) (fun _ => by walk_at "ik") (fun _ => rfl)
  walk_at "~seq set cb cons slScr:1 noPart part nameV:1 partK nil"
  refine c_cbK _ rfl ?_
  refine c_pur x_listL ?_
  refine c_setNL (τ := Int) eI (cutL script none (some size)) (fun cells1 => [.scr script, .val (eI size), .own (.lst (cells1.map eI)), .no, .no]) (fun _ => rfl) fun cells1 => ?_
  walk_at "~seqN seq"
  refine c_bef (e2 := [.scr script, .val (eI size), .own (.lst (cells1.map eI)), .no, .no]) rfl ?_
  walk_at "~for enum cons frz slScr:1 part nameV:1 partK part c partK frzN nil"
  refine c_enumK (l := (cutL script (some size) (some 63))) (ec := eI) rfl ?_
  refine c_loop (E := fun sE : (List Int) => [.scr script, .val (eI size), .own (.lst (sE.map eI)), .no, .no]) (forL_P (E := fun sE : (List Int) => [.scr script, .val (eI size), .own (.lst (sE.map eI)), .no, .no]) (ec := (eT2 eI eI)) (s_w_folded_b2 (.scr script) size) _ cells1) fun s7 => ?_
  walk_at "~seqN ret nameO:1"
  refine c_retK (.new (.lst (s7.map eI))) rfl (e2 := [.no, .no, .no, .no, .no]) rfl ?_
  exact rfl
def m_w_box : MS := (mSeq (mSet 2 (mFrz (mIf (mTest (mOp (gCmp fun i j => decide (i < j)) (mName 1) (mCB gLen (mCons (mName 0) mNil)))) (mOp gIx (mName 0) (mName 1)) (mC (.int 0)))))
    (mRetW [0, 1, 2] (mLst (mCons (mFrz (mOp gMul (mCB (gInt1 fun i => if i < 0 then -i else i) (mCons (mName 2) mNil)) (mCB gInt (mCons (mOp (gCmp fun i j => decide (j ≤ i)) (mCB (gInt1 fun i => if i < 0 then -i else i) (mCons (mName 2) mNil)) (mOp gPow (mC (.int 10)) (mC (.int 18)))) mNil)))) (mCons (mFrz (mOp gAdd (mOp gAdd (mOp gMul (mOp gMod (mName 2) (mC (.int 2147483629))) (mC (.int 48271))) (mOp gMul (mC (.int 15485863)) (mName 1))) (mC (.int 37)))) (mCons (mFrz (mC (.int 0))) mNil))))))
def fm_w_box : FM := fmOf 2 3 m_w_box
theorem ok_w_box (T : Tx w K mg fd) : FnOk P w K mg base CX0 1 (He.ga K "_law_box") (fd 1) ["_law_script", "_law_k"] (spF K fm_w_box) :=
  fn_ok T.F_w_box sc_w_box fun cdv A outer s H E hr => (show VSs _ _ m_w_box from (vs_cons (vs_set (i := 2) sc_w_box.nd (ve_frz (ve_if (vt_cmp op_lt (od_cmp (p := fun i j => decide (i < j))) (ve_name 1) (ve_callB call_len cd_len (by rfl) T.b_len PySem.boot_len (va_cons (ve_name 0) va_nil)) (nomark _)) (ve_ix ix_seq od_ix (ve_name 0) (ve_name 1) (fun _ _ => rfl)) ve_int)))
      (vs_one (vs_retW (ve_lst (va_cons (ve_frz (ve_op or_mul od_mul (ve_callB call_abs (cd_int1 (f := fun i => if i < 0 then -i else i)) (by rfl) T.b_abs (by decide +kernel) (va_cons (ve_name 2) va_nil)) (ve_callTy call_int1 cd_int (by rfl) T.b_int (by decide +kernel) (va_cons (ve_cmp op_ge (od_cmp (p := fun i j => decide (j ≤ i))) (ve_callB call_abs (cd_int1 (f := fun i => if i < 0 then -i else i)) (by rfl) T.b_abs (by decide +kernel) (va_cons (ve_name 2) va_nil)) (ve_op op_pow od_pow ve_int ve_int) (nomark _)) va_nil)))) (va_cons (ve_frz (ve_op or_add od_add (ve_op or_add od_add (ve_op or_mul od_mul (ve_op op_mod od_mod (ve_name 2) ve_int) ve_int) (ve_op or_mul od_mul ve_int (ve_name 1))) ve_int)) (va_cons (ve_frz ve_int) va_nil))))))))
def P_w_box (script : (List Int)) (k : Int) : Option (List Int) :=
  (if decide (k < (script.length : Int)) = true then
    (pIx script k).bind fun t1 =>
    some t1
  else
    some 0).bind fun z2 =>
  (pMul (absI z2) (if decide (1000000000000000000 ≤ (absI z2)) = true then 1 else 0)).bind fun t3 =>
  some [t3, ((((z2 % 2147483629) * 48271) + (15485863 * k)) + 37), 0]
theorem q_w_box (script : (List Int)) (k : Int) : fm_w_box [.val ((eL eI) script), .val (eI k)] = (P_w_box script k).map fun z => (.new (.lst (z.map eI)), [.no, .no]) := by
  unfold fm_w_box m_w_box P_w_box
  refine c_fm (oR := fun z : (List Int) => .new (.lst (z.map eI))) (eR := fun z => [.no, .no, .no]) [.val ((eL eI) script), .val (eI k), .no] rfl rfl ?_ (fun _ => rfl) (fun _ => by walk_at "ik") (fun _ => rfl)
  walk_at "~seq set frz if test op nameV:1 cb cons nameV:1 nil"
  refine c_cbK _ rfl ?_
  refine c_pur (x_lenL (e := eI) (l := script)) ?_
  walk_at "~opK:2"
  refine c_pur x_cmp ?_
  walk_at "~testK"
  refine c_ifJ (fun z2 => (.dat (eI z2), [.val ((eL eI) script), .val (eI k), .no])) ?_ ?_ fun z2 => ?_
  · refine c_op ?_
    walk_at "~nameV:1 nameV:1 opK:2"
    refine c_cal (x_ix (e := eI) (l := script)) fun t1 => ?_
    exact rfl
  · refine c_c ?_
    exact rfl
  walk_at "~frzD"
  refine c_setD (e2 := [.val ((eL eI) script), .val (eI k), .val (eI z2)]) rfl ?_
  walk_at "~seqN ret lst cons frz op cb cons nameV:1 nil"
  refine c_cbK _ rfl ?_
  refine c_pur x_int1 ?_
  walk_at "~cb cons op cb cons nameV:1 nil"
  refine c_cbK _ rfl ?_
  refine c_pur x_int1 ?_
  walk_at "~op c c opK:2"
  refine c_pur (v := .dat (.int 1000000000000000000)) rfl ?_
  walk_at "~opK:2"
  refine c_pur x_cmp ?_
  walk_at "~nil"
  refine c_cbK _ rfl ?_
  refine c_pur x_intB ?_
  walk_at "~opK:2"
  refine c_cal x_mul fun t3 => ?_
  walk_at "~frzD cons frz op op op op nameV:1 c opK:2"
  refine c_pur (x_modC (by decide)) ?_
  walk_at "~c opK:2"
  refine c_pur (x_mulR (by decide)) ?_
  walk_at "~op c nameV:1 opK:2"
  refine c_pur (x_mulL (by decide)) ?_
  walk_at "~opK:2"
  refine c_pur x_add ?_
  walk_at "~c opK:2"
  refine c_pur x_add ?_
  walk_at "~frzD cons frz c frzD nil"
  refine c_lstK ([t3, ((((z2 % 2147483629) * 48271) + (15485863 * k)) + 37), 0].map eI) rfl (Nat.le_of_ble_eq_true rfl) ?_
  refine c_retK (.new (.lst ([t3, ((((z2 % 2147483629) * 48271) + (15485863 * k)) + 37), 0].map eI))) rfl (e2 := [.no, .no, .no]) rfl ?_
  exact rfl
def m_w_take : MS := (mSeq (mIfS (mTest (mOp (gCmp fun i j => decide (j < i)) (mOp gIx (mName 0) (mC (.int 0))) (mC (.int 0)))) (mSeq (mSet 5 (mOp gMod (mOp gIx (mName 0) (mC (.int 0))) (mName 1)))
    (mSeq (mAsg (mOp gDiv (mOp gIx (mName 0) (mC (.int 0))) (mName 1)) (mgSub 0 (mC (.int 0))))
    (mRetW [1, 2, 3, 4, 5] (mName 5)))) mSkip)
    (mSeq (mAsg (mOp gAdd (mOp gIx (mName 0) (mC (.int 2))) (mC (.int 1))) (mgSub 0 (mC (.int 2))))
    (mSeq (mSet 2 (mFrz (mOp gAdd (mC (.int 69621)) (mOp gMul (mOp gIx (mName 0) (mC (.int 2))) (mOp gIx (mName 0) (mC (.int 2)))))))
    (mSeq (mSet 3 (mFrz (mOp gMod (mOp gMul (mOp gAdd (mOp gIx (mName 0) (mC (.int 1))) (mOp gMul (mC (.int 39373)) (mOp gIx (mName 0) (mC (.int 2))))) (mName 2)) (mC (.int 2147483587)))))
    (mSeq (mSet 4 (mFrz (mOp gMod (mOp gAdd (mOp gMul (mName 3) (mOp gAdd (mOp gMod (mName 3) (mC (.int 30011))) (mC (.int 5)))) (mOp gIx (mName 0) (mC (.int 2)))) (mC (.int 2147483563)))))
    (mRetW [1, 2, 3, 4, 5] (mOp gMod (mOp gDiv (mOp gMod (mOp gMul (mName 4) (mOp gAdd (mOp gMod (mName 4) (mC (.int 1013))) (mC (.int 3)))) (mC (.int 998244353))) (mC (.int 16))) (mName 1))))))))
def fm_w_take : FM := fmOf 2 6 m_w_take
theorem ok_w_take (T : Tx w K mg fd) : FnOk P w K mg base CX0 1 (He.ga K "_law_take") (fd 2) ["_law_box_here", "_law_many"] (spF K fm_w_take) :=
  fn_ok T.F_w_take sc_w_take fun cdv A outer s H E hr => (show VSs _ _ m_w_take from (vs_cons (vs_if (vt_cmp op_gt (od_cmp (p := fun i j => decide (j < i))) (ve_ix ix_seq od_ix (ve_name 0) ve_int (fun _ _ => rfl)) ve_int (nomark _)) (vs_cons (vs_set (i := 5) sc_w_take.nd (ve_op op_mod od_mod (ve_ix ix_seq od_ix (ve_name 0) ve_int (fun _ _ => rfl)) (ve_name 1)))
      (vs_cons (vs_asg (ve_op op_fdiv od_div (ve_ix ix_seq od_ix (ve_name 0) ve_int (fun _ _ => rfl)) (ve_name 1)) (vg_sub (i := 0) ve_int))
      (vs_one (vs_retW (ve_name 5))))) vs_nil)
      (vs_cons (vs_asg (ve_op or_add od_add (ve_ix ix_seq od_ix (ve_name 0) ve_int (fun _ _ => rfl)) ve_int) (vg_sub (i := 0) ve_int))
      (vs_cons (vs_set (i := 2) sc_w_take.nd (ve_frz (ve_op or_add od_add ve_int (ve_op or_mul od_mul (ve_ix ix_seq od_ix (ve_name 0) ve_int (fun _ _ => rfl)) (ve_ix ix_seq od_ix (ve_name 0) ve_int (fun _ _ => rfl))))))
      (vs_cons (vs_set (i := 3) sc_w_take.nd (ve_frz (ve_op op_mod od_mod (ve_op or_mul od_mul (ve_op or_add od_add (ve_ix ix_seq od_ix (ve_name 0) ve_int (fun _ _ => rfl)) (ve_op or_mul od_mul ve_int (ve_ix ix_seq od_ix (ve_name 0) ve_int (fun _ _ => rfl)))) (ve_name 2)) ve_int)))
      (vs_cons (vs_set (i := 4) sc_w_take.nd (ve_frz (ve_op op_mod od_mod (ve_op or_add od_add (ve_op or_mul od_mul (ve_name 3) (ve_op or_add od_add (ve_op op_mod od_mod (ve_name 3) ve_int) ve_int)) (ve_ix ix_seq od_ix (ve_name 0) ve_int (fun _ _ => rfl))) ve_int)))
      (vs_one (vs_retW (ve_op op_mod od_mod (ve_op op_fdiv od_div (ve_op op_mod od_mod (ve_op or_mul od_mul (ve_name 4) (ve_op or_add od_add (ve_op op_mod od_mod (ve_name 4) ve_int) ve_int)) ve_int) ve_int) (ve_name 1))))))))))
def P_w_take (box : (List Int)) (many : Int) : Option (Int × (List Int)) :=
  (pIx box 0).bind fun t1 =>
  if decide (0 < t1) = true then
    (pIx box 0).bind fun t2 =>
    (pMod t2 many).bind fun t3 =>
    (pIx box 0).bind fun t4 =>
    (pDiv t4 many).bind fun t5 =>
    (pSet box 0 t5).bind fun box6 =>
    some (t3, box6)
  else
    (pIx box 2).bind fun t7 =>
    (pSet box 2 (t7 + 1)).bind fun box8 =>
    (pIx box8 2).bind fun t9 =>
    (pIx box8 2).bind fun t10 =>
    (pMul t9 t10).bind fun t11 =>
    (some (69621 + t11)).bind fun step12 =>
    (pIx box8 1).bind fun t13 =>
    (pIx box8 2).bind fun t14 =>
    (pMul (t13 + (39373 * t14)) step12).bind fun t15 =>
    (some (t15 % 2147483587)).bind fun once16 =>
    (pMul once16 ((once16 % 30011) + 5)).bind fun t17 =>
    (pIx box8 2).bind fun t18 =>
    (some ((t17 + t18) % 2147483563)).bind fun twice19 =>
    (pMul twice19 ((twice19 % 1013) + 3)).bind fun t20 =>
    (pMod ((t20 % 998244353) / 16) many).bind fun t21 =>
    some (t21, box8)
theorem q_w_take (box : (List Int)) (many : Int) : fm_w_take [.io 0 (.lst (box.map eI)), .val (eI many)] = (P_w_take box many).map fun z => (.dat (eI z.1), [.io 0 (.lst (z.2.map eI)), .no]) := by
  unfold fm_w_take m_w_take P_w_take
  refine c_fm (oR := fun z : (Int × (List Int)) => .dat (eI z.1)) (eR := fun z => [.io 0 (.lst (z.2.map eI)), .no, .no, .no, .no, .no]) [.io 0 (.lst (box.map eI)), .val (eI many), .no, .no, .no, .no] rfl rfl ?_ (fun _ => rfl) (fun _ => by walk_at "ik") (fun _ => rfl)
  walk_at "~seq ifS test op op nameI:1 c opK:2"
  refine c_cal (x_ix (e := eI) (l := box)) fun t1 => ?_
  walk_at "~c opK:2"
  refine c_pur x_cmp ?_
  walk_at "~testK"
  refine c_ite ?_ ?_
  · refine c_seq ?_
    walk_at "~set op op nameI:1 c opK:2"
    refine c_cal (x_ix (e := eI) (l := box)) fun t2 => ?_
    walk_at "~nameV:1 opK:2"
    refine c_cal x_mod fun t3 => ?_
    refine c_setD (e2 := [.io 0 (.lst (box.map eI)), .val (eI many), .no, .no, .no, .val (eI t3)]) rfl ?_
    walk_at "~seqN seq asg op op nameI:1 c opK:2"
    refine c_cal (x_ix (e := eI) (l := box)) fun t4 => ?_
    walk_at "~nameV:1 opK:2"
    refine c_cal x_div fun t5 => ?_
    walk_at "~frzD asgK gsub:1 c"
    refine c_gsubP eI box t5 (fun box6 => [.io 0 (.lst (box6.map eI)), .val (eI many), .no, .no, .no, .val (eI t3)]) rfl (fun _ => rfl) fun box6 => ?_
    walk_at "~seqN ret nameV:1"
    refine c_retK (.dat (eI t3)) rfl (e2 := [.io 0 (.lst (box6.map eI)), .no, .no, .no, .no, .no]) rfl ?_
    walk_at "~seqR"
    exact rfl
  · refine c_skip ?_
    walk_at "~seqN seq asg op op nameI:1 c opK:2"
    refine c_cal (x_ix (e := eI) (l := box)) fun t7 => ?_
    walk_at "~c opK:2"
    refine c_pur x_add ?_
    walk_at "~frzD asgK gsub:1 c"
    refine c_gsubP eI box (t7 + 1) (fun box8 => [.io 0 (.lst (box8.map eI)), .val (eI many), .no, .no, .no, .no]) rfl (fun _ => rfl) fun box8 => ?_
    walk_at "~seqN seq set frz op c op op nameI:1 c opK:2"
    refine c_cal (x_ix (e := eI) (l := box8)) fun t9 => ?_
    walk_at "~op nameI:1 c opK:2"
    refine c_cal (x_ix (e := eI) (l := box8)) fun t10 => ?_
    walk_at "~opK:2"
    refine c_cal x_mul fun t11 => ?_
    walk_at "~opK:2"
    refine c_pur x_add ?_
    walk_at "~frzD"
    refine c_setDL (τ := Int) eI (69621 + t11) (fun step12 => [.io 0 (.lst (box8.map eI)), .val (eI many), .val (eI step12), .no, .no, .no]) (fun _ => rfl) fun step12 => ?_
    walk_at "~seqN seq set frz op op op op nameI:1 c opK:2"
    refine c_cal (x_ix (e := eI) (l := box8)) fun t13 => ?_
    walk_at "~op c op nameI:1 c opK:2"
    refine c_cal (x_ix (e := eI) (l := box8)) fun t14 => ?_
    walk_at "~opK:2"
    refine c_pur (x_mulL (by decide)) ?_
    walk_at "~opK:2"
    refine c_pur x_add ?_
    walk_at "~nameV:1 opK:2"
    refine c_cal x_mul fun t15 => ?_
    walk_at "~c opK:2"
    refine c_pur (x_modC (by decide)) ?_
    walk_at "~frzD"
    refine c_setDL (τ := Int) eI (t15 % 2147483587) (fun once16 => [.io 0 (.lst (box8.map eI)), .val (eI many), .val (eI step12), .val (eI once16), .no, .no]) (fun _ => rfl) fun once16 => ?_
    walk_at "~seqN seq set frz op op op nameV:1 op op nameV:1 c opK:2"
    refine c_pur (x_modC (by decide)) ?_
    walk_at "~c opK:2"
    refine c_pur x_add ?_
    walk_at "~opK:2"
    refine c_cal x_mul fun t17 => ?_
    walk_at "~op nameI:1 c opK:2"
    refine c_cal (x_ix (e := eI) (l := box8)) fun t18 => ?_
    walk_at "~opK:2"
    refine c_pur x_add ?_
    walk_at "~c opK:2"
    refine c_pur (x_modC (by decide)) ?_
    walk_at "~frzD"
    refine c_setDL (τ := Int) eI ((t17 + t18) % 2147483563) (fun twice19 => [.io 0 (.lst (box8.map eI)), .val (eI many), .val (eI step12), .val (eI once16), .val (eI twice19), .no]) (fun _ => rfl) fun twice19 => ?_
    walk_at "~seqN ret op op op op nameV:1 op op nameV:1 c opK:2"
    refine c_pur (x_modC (by decide)) ?_
    walk_at "~c opK:2"
    refine c_pur x_add ?_
    walk_at "~opK:2"
    refine c_cal x_mul fun t20 => ?_
    walk_at "~c opK:2"
    refine c_pur (x_modC (by decide)) ?_
    walk_at "~c opK:2"
    refine c_pur (x_divC (by decide)) ?_
    walk_at "~nameV:1 opK:2"
    refine c_cal x_mod fun t21 => ?_
    refine c_retK (.dat (eI t21)) rfl (e2 := [.io 0 (.lst (box8.map eI)), .no, .no, .no, .no, .no]) rfl ?_
    exact rfl
def m_w_names_e1 : ME := (mOp gIx (mName 2) (mCallF fm_w_take (some 0) (mCons (mName 0) (mCons (mC (.int 26)) mNil))))
def P_w_names_l2 (letters : Str) (y6 : Int) (ss : (List Int)) : Option (Str × (List Int)) :=
  (P_w_take ss 26).bind fun r7 =>
  (pIxS letters r7.1).bind fun t8 =>
  some (t8, r7.2)
theorem s_w_names_l2 (o1 : Slot) (letters : Str) (o3 : Slot) (o4 : Slot) (o5 : Slot) (y6 : Int) (ss : (List Int)) : lcStep (mgName 7) mYes m_w_names_e1 [7] (eI y6) [.io 0 (.lst (ss.map eI)), o1, .val (eS letters), o3, o4, o5, .no, .no] = (P_w_names_l2 letters y6 ss).map fun z => (some (eS z.1), [.io 0 (.lst (z.2.map eI)), o1, .val (eS letters), o3, o4, o5, .no, .no]) := c_stepM (α := Unit) (by
  unfold P_w_names_l2
  refine c_gname (e2 := [.io 0 (.lst (ss.map eI)), o1, .val (eS letters), o3, o4, o5, .no, .val (eI y6)]) rfl ?_
  walk_at "~yes iteT bb op nameV:1 callF cons nameI:1 cons c nil"
  refine c_callK (bk := fun r7 => [.io 0 (.lst (r7.2.map eI)), o1, .val (eS letters), o3, o4, o5, .no, .val (eI y6)]) rfl rfl (q_w_take ss 26) (fun _ => by walk_at "fl") (fun _ => rfl) fun r7 => ?_
  walk_at "~opK:2"
  refine c_cal x_ixS fun t8 => ?_
  walk_at "~frzD"
  refine c_elt (e1 := [.io 0 (.lst (r7.2.map eI)), o1, .val (eS letters), o3, o4, o5, .no, .no]) rfl ?_
  exact rfl)
def m_w_names_b3 : MS := (mAft [7] (mIfS (mTest (mOp (gIn false) (mName 6) (mName 3))) (mAft [] (mSet 6 (mFrz (mOp gAdd (mOp gAdd (mSl gSlS (mName 6) mNoPart (mPart (mC (.int 6)))) (mOp gIx (mName 2) (mOp gDiv (mName 7) (mC (.int 26))))) (mOp gIx (mName 2) (mOp gMod (mName 7) (mC (.int 26)))))))) (mAft [] mSkip)))
def P_w_names_b4 (letters : Str) (found : (List Str)) (xx : Int) (ss : Str) : Option Str :=
  (if decide (ss ∈ found) = true then
    (pSlS ss none (some 6)).bind fun t18 =>
    (pIxS letters (xx / 26)).bind fun t19 =>
    (pCatS t18 t19).bind fun t20 =>
    (pIxS letters (xx % 26)).bind fun t21 =>
    (pCatS t20 t21).bind fun t22 =>
    some t22
  else
    some ss).bind fun z17 =>
  some z17
theorem s_w_names_b4 (o0 : Slot) (o1 : Slot) (letters : Str) (found : (List Str)) (o4 : Slot) (o5 : Slot) (xx : Int) (ss : Str) : ((mgName 7) (eI xx) [o0, o1, .val (eS letters), .own (.lst (found.map eS)), o4, o5, .val (eS ss), .no]).bind m_w_names_b3 = (P_w_names_b4 letters found xx ss).map (outN (fun ss : Str => [o0, o1, .val (eS letters), .own (.lst (found.map eS)), o4, o5, .val (eS ss), .no])) := c_body (by
  unfold P_w_names_b4 m_w_names_b3
  refine c_gname (e2 := [o0, o1, .val (eS letters), .own (.lst (found.map eS)), o4, o5, .val (eS ss), .val (eI xx)]) rfl ?_
  walk_at "~aft ifS test op nameV:1 nameO:1 opK:2"
  refine c_pur x_inS0 ?_
  walk_at "~testK"
  refine c_ifJ (fun z17 : Str => (.nx, [o0, o1, .val (eS letters), .own (.lst (found.map eS)), o4, o5, .val (eS z17), .val (eI xx)])) ?_ ?_ fun z17 => ?_
  · refine c_aft ?_
    walk_at "~set frz op op sl nameV:1 noPart part c partK"
    refine c_slK _ rfl ?_
    refine c_cal x_slS fun t18 => ?_
    walk_at "~op nameV:1 op nameV:1 c opK:2"
    refine c_pur (x_divC (by decide)) ?_
    walk_at "~opK:2"
    refine c_cal x_ixS fun t19 => ?_
    walk_at "~opK:2"
    refine c_cal x_catS fun t20 => ?_
    walk_at "~op nameV:1 op nameV:1 c opK:2"
    refine c_pur (x_modC (by decide)) ?_
    walk_at "~opK:2"
    refine c_cal x_ixS fun t21 => ?_
    walk_at "~opK:2"
    refine c_cal x_catS fun t22 => ?_
    walk_at "~frzD"
    refine c_setD (e2 := [o0, o1, .val (eS letters), .own (.lst (found.map eS)), o4, o5, .val (eS t22), .val (eI xx)]) rfl ?_
    refine c_aftN (e2 := [o0, o1, .val (eS letters), .own (.lst (found.map eS)), o4, o5, .val (eS t22), .val (eI xx)]) rfl ?_
    exact rfl
  · refine c_aft ?_
    walk_at "~skip"
    refine c_aftN (e2 := [o0, o1, .val (eS letters), .own (.lst (found.map eS)), o4, o5, .val (eS ss), .val (eI xx)]) rfl ?_
    exact rfl
  refine c_aftN (e2 := [o0, o1, .val (eS letters), .own (.lst (found.map eS)), o4, o5, .val (eS z17), .no]) rfl ?_
  exact rfl)
def m_w_names_b5 : MS := (mAft [5, 6, 7] (mSeq (mSet 6 (mFrz (mBM "str" gJoin (mC (.str "")) (mCons (mLc (mRange1 (mCons (mOp gIx (mLst (mCons (mFrz (mC (.int 1))) (mCons (mFrz (mC (.int 2))) (mCons (mFrz (mC (.int 3))) (mCons (mFrz (mC (.int 8))) mNil))))) (mCallF fm_w_take (some 0) (mCons (mName 0) (mCons (mC (.int 4)) mNil)))) mNil)) (mgName 7) mYes m_w_names_e1 [7]) mNil))))
    (mSeq (mIfS (mTest (mOp (gEq false) (mCallF fm_w_take (some 0) (mCons (mName 0) (mCons (mC (.int 12)) mNil))) (mC (.int 0)))) (mAft [] (mSet 6 (mFrz (mOp gIx (mBM "str" gSplit (mName 4) (mCons (mC (.str " ")) mNil)) (mCallF fm_w_take (some 0) (mCons (mName 0) (mCons (mC (.int 18)) mNil))))))) (mAft [] mSkip))
    (mSeq (mBef [7] (mFor (mRange1 (mCons (mC (.int 676)) mNil)) (mgName 7) m_w_names_b3))
    (mDrop (mMut 3 fApp (mCons (mFrz (mName 6)) mNil)))))))
def P_w_names_b6 (letters : Str) (words : Str) (xx : Int) (ss : ((List Int) × (List Str))) : Option ((List Int) × (List Str)) :=
  (P_w_take ss.1 4).bind fun r3 =>
  (pIx [1, 2, 3, 8] r3.1).bind fun t4 =>
  (pRng t4).bind fun l5 =>
  (gd (l5.length ≤ 100000)).bind fun _ =>
  (mapS (P_w_names_l2 letters) l5 r3.2).bind fun l9 =>
  (pJoin ("" : Str) l9.1).bind fun t10 =>
  (P_w_take l9.2 12).bind fun r11 =>
  (if decide (r11.1 = 0) = true then
    (pSplit words (" " : Str)).bind fun t13 =>
    (P_w_take r11.2 18).bind fun r14 =>
    (pIx t13 r14.1).bind fun t15 =>
    some (r14.2, t15)
  else
    some (r11.2, t10)).bind fun z12 =>
  (pRng 676).bind fun l16 =>
  (forP (P_w_names_b4 letters ss.2) l16 z12.2).bind fun s23 =>
  (pApp ss.2 s23).bind fun found24 =>
  some (z12.1, found24)
theorem s_w_names_b6 (o1 : Slot) (letters : Str) (words : Str) (xx : Int) (ss : ((List Int) × (List Str))) : ((mgName 5) (eI xx) [.io 0 (.lst (ss.1.map eI)), o1, .val (eS letters), .own (.lst (ss.2.map eS)), .val (eS words), .no, .no, .no]).bind m_w_names_b5 = (P_w_names_b6 letters words xx ss).map (outN (fun ss : ((List Int) × (List Str)) => [.io 0 (.lst (ss.1.map eI)), o1, .val (eS letters), .own (.lst (ss.2.map eS)), .val (eS words), .no, .no, .no])) := c_body (by
  unfold P_w_names_b6 m_w_names_b5
  refine c_gname (e2 := [.io 0 (.lst (ss.1.map eI)), o1, .val (eS letters), .own (.lst (ss.2.map eS)), .val (eS words), .val (eI xx), .no, .no]) rfl ?_
  walk_at "~aft seq set frz bm c"
  refine c_bmK _ rfl rfl ?_
  walk_at "~cons lc rng cons op lst cons frz c frzD cons frz c frzD cons frz c frzD cons frz c frzD nil"
  refine c_lstK ([1, 2, 3, 8].map eI) rfl (Nat.le_of_ble_eq_true rfl) ?_
  walk_at "~callF cons nameI:1 cons c nil"
  refine c_callK (bk := fun r3 => [.io 0 (.lst (r3.2.map eI)), o1, .val (eS letters), .own (.lst (ss.2.map eS)), .val (eS words), .val (eI xx), .no, .no]) rfl rfl (q_w_take ss.1 4) (fun _ => by walk_at "fl") (fun _ => rfl) fun r3 => ?_
  walk_at "~opK:2"
  refine c_cal (x_ix (e := eI) (l := [1, 2, 3, 8])) fun t4 => ?_
  walk_at "~nil"
  refine c_rngK rfl fun l5 => ?_
  refine c_lcK (xs := l5) (ec := eI) (e1 := [.io 0 (.lst (r3.2.map eI)), o1, .val (eS letters), .own (.lst (ss.2.map eS)), .val (eS words), .val (eI xx), .no, .no]) (by exact rfl) ?_
  refine c_cal2 (lc_mapS (f := P_w_names_l2 letters) (ec := eI) (ed := eS) (E := fun sE : (List Int) => ([.io 0 (.lst (sE.map eI)), o1, .val (eS letters), .own (.lst (ss.2.map eS)), .val (eS words), .val (eI xx), .no, .no] : Sl)) (s_w_names_l2 (o1) letters (.own (.lst (ss.2.map eS))) (.val (eS words)) (.val (eI xx))) _ r3.2) fun l9 => ?_
  walk_at "~nil"
  refine c_bmK2 _ _ rfl rfl ?_
  refine c_cal (x_join (l := l9.1)) fun t10 => ?_
  walk_at "~frzD"
  refine c_setD (e2 := [.io 0 (.lst (l9.2.map eI)), o1, .val (eS letters), .own (.lst (ss.2.map eS)), .val (eS words), .val (eI xx), .val (eS t10), .no]) rfl ?_
  walk_at "~seqN seq ifS test op callF cons nameI:1 cons c nil"
  refine c_callK (bk := fun r11 => [.io 0 (.lst (r11.2.map eI)), o1, .val (eS letters), .own (.lst (ss.2.map eS)), .val (eS words), .val (eI xx), .val (eS t10), .no]) rfl rfl (q_w_take l9.2 12) (fun _ => by walk_at "fl") (fun _ => rfl) fun r11 => ?_
  walk_at "~c opK:2"
  refine c_pur x_eqI0 ?_
  walk_at "~testK"
  refine c_ifJ (fun z12 : ((List Int) × Str) => (.nx, [.io 0 (.lst (z12.1.map eI)), o1, .val (eS letters), .own (.lst (ss.2.map eS)), .val (eS words), .val (eI xx), .val (eS z12.2), .no])) ?_ ?_ fun z12 => ?_
  · refine c_aft ?_
    walk_at "~set frz op bm nameV:1"
    refine c_bmK _ rfl rfl ?_
    walk_at "~cons c nil"
    refine c_bmK2 _ _ rfl rfl ?_
    refine c_cal x_split fun t13 => ?_
    walk_at "~callF cons nameI:1 cons c nil"
    refine c_callK (bk := fun r14 => [.io 0 (.lst (r14.2.map eI)), o1, .val (eS letters), .own (.lst (ss.2.map eS)), .val (eS words), .val (eI xx), .val (eS t10), .no]) rfl rfl (q_w_take r11.2 18) (fun _ => by walk_at "fl") (fun _ => rfl) fun r14 => ?_
    walk_at "~opK:2"
    refine c_cal (x_ix (e := eS) (l := t13)) fun t15 => ?_
    walk_at "~frzD"
    refine c_setD (e2 := [.io 0 (.lst (r14.2.map eI)), o1, .val (eS letters), .own (.lst (ss.2.map eS)), .val (eS words), .val (eI xx), .val (eS t15), .no]) rfl ?_
    refine c_aftN (e2 := [.io 0 (.lst (r14.2.map eI)), o1, .val (eS letters), .own (.lst (ss.2.map eS)), .val (eS words), .val (eI xx), .val (eS t15), .no]) rfl ?_
    exact rfl
  · refine c_aft ?_
    walk_at "~skip"
    refine c_aftN (e2 := [.io 0 (.lst (r11.2.map eI)), o1, .val (eS letters), .own (.lst (ss.2.map eS)), .val (eS words), .val (eI xx), .val (eS t10), .no]) rfl ?_
    exact rfl
  walk_at "~seqN seq"
  refine c_bef (e2 := [.io 0 (.lst (z12.1.map eI)), o1, .val (eS letters), .own (.lst (ss.2.map eS)), .val (eS words), .val (eI xx), .val (eS z12.2), .no]) rfl ?_
  walk_at "~for rng cons c nil"
  refine c_rngK rfl fun l16 => ?_
  refine c_loop (E := fun sE : Str => [.io 0 (.lst (z12.1.map eI)), o1, .val (eS letters), .own (.lst (ss.2.map eS)), .val (eS words), .val (eI xx), .val (eS sE), .no]) (forL_P (E := fun sE : Str => [.io 0 (.lst (z12.1.map eI)), o1, .val (eS letters), .own (.lst (ss.2.map eS)), .val (eS words), .val (eI xx), .val (eS sE), .no]) (ec := eI) (s_w_names_b4 (.io 0 (.lst (z12.1.map eI))) (o1) letters ss.2 (.val (eS words)) (.val (eI xx))) _ z12.2) fun s23 => ?_
  walk_at "~seqN drop mut:1 cons frz nameV:1 frzD nil"
  refine c_mutP [eS s23] (ss.2.map eS) (fun found24 => [.io 0 (.lst (z12.1.map eI)), o1, .val (eS letters), .own (.lst (found24.map eS)), .val (eS words), .val (eI xx), .val (eS s23), .no]) rfl rfl (x_app (e := eS) (l := ss.2) (x := s23)) (fun _ => rfl) fun found24 => ?_
  refine c_aftN (e2 := [.io 0 (.lst (z12.1.map eI)), o1, .val (eS letters), .own (.lst (found24.map eS)), .val (eS words), .no, .no, .no]) rfl ?_
  exact rfl)
def m_w_names : MS := (mSeq (mPutU [2, 3] (mConsU (mFrz (mC (.str "abcdefghijklmnopqrstuvwxyz"))) (mConsU (mLst mNil) mNil)))
    (mSeq (mSet 4 (mFrz (mC (.str "hand off load canoe way shut storm store take leave fill go land water strike undo late roll"))))
    (mSeq (mBef [5, 6, 7] (mFor (mRange1 (mCons (mName 1) mNil)) (mgName 5) m_w_names_b5))
    (mRetW [1, 2, 3, 4, 5, 6, 7] (mName 3)))))
def fm_w_names : FM := fmOf 2 8 m_w_names
theorem ok_w_names (T : Tx w K mg fd) : FnOk P w K mg base CX0 2 (He.ga K "_law_names") (fd 3) ["_law_box_here", "_law_many"] (spF K fm_w_names) :=
  fn_ok T.F_w_names sc_w_names fun cdv A outer s H E hr => (show VSs _ _ m_w_names from (vs_cons (vs_asgT (is := [2, 3]) (vau_cons (ve_frz ve_str) (vau_cons (ve_lst va_nil) vau_nil)) (pgs_cons (pg_name (i := 2) sc_w_names.nd rfl (Or.inr rfl)) (pgs_cons (pg_name (i := 3) sc_w_names.nd rfl (Or.inl rfl)) pgs_nil)))
      (vs_cons (vs_set (i := 4) sc_w_names.nd (ve_frz ve_str))
      (vs_cons (vs_bef (ws := [5, 6, 7]) (vs_for PassesOwn.never (vi_range1 T.b_range (va_cons (ve_name 1) va_nil)) (vg_name (j := 5) sc_w_names.nd) (vs_aft (ws := [5, 6, 7]) (vs_cons (vs_set (i := 6) sc_w_names.nd (ve_frz (ve_bm PySem.F.plainAttrs_str PySem.F.slot_str_join PySem.F.type_str_join mt_join mtd_join ve_str (va_cons (ve_lc (own := [("_law_turn", 7)]) sc_w_names.nd (vi_range1 T.b_range (va_cons (ve_ix ix_seq od_ix (ve_lst (va_cons (ve_frz ve_int) (va_cons (ve_frz ve_int) (va_cons (ve_frz ve_int) (va_cons (ve_frz ve_int) va_nil))))) (ve_callF (some 0) (FnOk.mono (ok_w_take T) (by decide)) hr T.g_w_take T.F_w_take.kp (bi_w_take T) (va_cons (ve_name 0) (va_cons ve_int va_nil))) (fun _ _ => rfl)) va_nil)) (blkOk_by (own := [("_law_turn", 7)]) (N := ["_law_box_here", "_law_many", "_law_letters", "_law_found", "_law_words", "_law_k", "_law_name", "_law_turn"]) (sc := defScope s_w_names) (by decide +kernel)) (fun _ _ _ _ _ => (vg_name (j := 7) sc_w_names.nd)) (fun _ _ _ _ _ => vts_nil) (fun _ _ _ _ _ => (ve_ix ix_seq od_ix (ve_name 2) (ve_callF (some 0) (FnOk.mono (ok_w_take T) (by decide)) hr T.g_w_take T.F_w_take.kp (bi_w_take T) (va_cons (ve_name 0) (va_cons ve_int va_nil))) (fun _ _ => rfl))) (by decide)) va_nil))))
      (vs_cons (vs_if (vt_cmp (or_eq hr.units) od_eq (ve_callF (some 0) (FnOk.mono (ok_w_take T) (by decide)) hr T.g_w_take T.F_w_take.kp (bi_w_take T) (va_cons (ve_name 0) (va_cons ve_int va_nil))) ve_int (nomark _)) (vs_aft (ws := []) (vs_one (vs_set (i := 6) sc_w_names.nd (ve_frz (ve_ix ix_seq od_ix (ve_bm PySem.F.plainAttrs_str PySem.F.slot_str_split PySem.F.type_str_split mt_split mtd_split (ve_name 4) (va_cons ve_str va_nil)) (ve_callF (some 0) (FnOk.mono (ok_w_take T) (by decide)) hr T.g_w_take T.F_w_take.kp (bi_w_take T) (va_cons (ve_name 0) (va_cons ve_int va_nil))) (fun _ _ => rfl)))))) (vs_aft (ws := []) vs_nil))
      (vs_cons (vs_bef (ws := [7]) (vs_for PassesOwn.never (vi_range1 T.b_range (va_cons ve_int va_nil)) (vg_name (j := 7) sc_w_names.nd) (vs_aft (ws := [7]) (vs_one (vs_if (vt_cmp op_in_seq (od_in (neg := false)) (ve_name 6) (ve_name 3) (by rfl)) (vs_aft (ws := []) (vs_one (vs_set (i := 6) sc_w_names.nd (ve_frz (ve_op or_add od_add (ve_op or_add od_add (ve_slice sl_str sd_str (ve_name 6) vo_none (vo_some ve_int)) (ve_ix ix_seq od_ix (ve_name 2) (ve_op op_fdiv od_div (ve_name 7) ve_int) (fun _ _ => rfl))) (ve_ix ix_seq od_ix (ve_name 2) (ve_op op_mod od_mod (ve_name 7) ve_int) (fun _ _ => rfl))))))) (vs_aft (ws := []) vs_nil))))))
      (vs_one (vs_expr (ve_mut (i := 3) PySem.F.slot_list_append PySem.F.type_list_append mt_append md_append (va_cons (ve_frz (ve_name 6)) va_nil))))))))))
      (vs_one (vs_retW (ve_name 3)))))))
def P_w_names (box : (List Int)) (many : Int) : Option ((List Str) × (List Int)) :=
  (some ("hand off load canoe way shut storm store take leave fill go land water strike undo late roll" : Str)).bind fun words1 =>
  (pRng many).bind fun l2 =>
  (forP (P_w_names_b6 ("abcdefghijklmnopqrstuvwxyz" : Str) words1) l2 (box, ([] : (List Str)))).bind fun s25 =>
  some (s25.2, s25.1)
theorem q_w_names (box : (List Int)) (many : Int) : fm_w_names [.io 0 (.lst (box.map eI)), .val (eI many)] = (P_w_names box many).map fun z => (.new (.lst (z.1.map eS)), [.io 0 (.lst (z.2.map eI)), .no]) := by
  unfold fm_w_names m_w_names P_w_names
  refine c_fm (oR := fun z : ((List Str) × (List Int)) => .new (.lst (z.1.map eS))) (eR := fun z => [.io 0 (.lst (z.2.map eI)), .no, .no, .no, .no, .no, .no, .no]) [.io 0 (.lst (box.map eI)), .val (eI many), .no, .no, .no, .no, .no, .no] rfl rfl ?_ (fun _ => rfl) (fun _ => by walk_at "ik") (fun _ => rfl)
  walk_at "~seq putU consU frz c frzD frzSD consU lst nil"
  refine c_lstK (([] : List Int).map eI) rfl (Nat.le_of_ble_eq_true rfl) ?_
  walk_at "~frzSN nil"
  refine c_putUK [.io 0 (.lst (box.map eI)), .val (eI many), .val (eS ("abcdefghijklmnopqrstuvwxyz" : Str)), .own (.lst (([] : (List Str)).map eS)), .no, .no, .no, .no] rfl ?_
  walk_at "~seqN seq set frz c frzD"
  refine c_setDL (τ := Str) eS ("hand off load canoe way shut storm store take leave fill go land water strike undo late roll" : Str) (fun words1 => [.io 0 (.lst (box.map eI)), .val (eI many), .val (eS ("abcdefghijklmnopqrstuvwxyz" : Str)), .own (.lst (([] : (List Str)).map eS)), .val (eS words1), .no, .no, .no]) (fun _ => rfl) fun words1 => ?_
  walk_at "~seqN seq"
  refine c_bef (e2 := [.io 0 (.lst (box.map eI)), .val (eI many), .val (eS ("abcdefghijklmnopqrstuvwxyz" : Str)), .own (.lst (([] : (List Str)).map eS)), .val (eS words1), .no, .no, .no]) rfl ?_
  walk_at "~for rng cons nameV:1 nil"
  refine c_rngK rfl fun l2 => ?_
  refine c_loop (E := fun sE : ((List Int) × (List Str)) => [.io 0 (.lst (sE.1.map eI)), .val (eI many), .val (eS ("abcdefghijklmnopqrstuvwxyz" : Str)), .own (.lst (sE.2.map eS)), .val (eS words1), .no, .no, .no]) (forL_P (E := fun sE : ((List Int) × (List Str)) => [.io 0 (.lst (sE.1.map eI)), .val (eI many), .val (eS ("abcdefghijklmnopqrstuvwxyz" : Str)), .own (.lst (sE.2.map eS)), .val (eS words1), .no, .no, .no]) (ec := eI) (s_w_names_b6 (.val (eI many)) ("abcdefghijklmnopqrstuvwxyz" : Str) words1) _ (box, ([] : (List Str)))) fun s25 => ?_
  walk_at "~seqN ret nameO:1"
  refine c_retK (.new (.lst (s25.2.map eS))) rfl (e2 := [.io 0 (.lst (s25.1.map eI)), .no, .no, .no, .no, .no, .no, .no]) rfl ?_
  exact rfl
def m_w_strewn_b1 : MS := (mAft [3, 4] (mSeq (mSet 4 (mFrz (mCallF fm_w_take (some 0) (mCons (mName 0) (mCons (mOp gAdd (mName 3) (mC (.int 1))) mNil)))))
    (mAsg (mTup (mCons (mFrz (mOp gIx (mName 2) (mName 4))) (mCons (mFrz (mOp gIx (mName 2) (mName 3))) mNil))) (mgTup (mgCons (mgSub 2 (mName 3)) (mgCons (mgSub 2 (mName 4)) mgNil))))))
def P_w_strewn_b2  (xx : Int) (ss : ((List Int) × (List (Str × Str × Str × Str × Int)))) : Option ((List Int) × (List (Str × Str × Str × Str × Int))) :=
  (P_w_take ss.1 (xx + 1)).bind fun r2 =>
  (pIx ss.2 r2.1).bind fun t3 =>
  (pIx ss.2 xx).bind fun t4 =>
  (pSet ss.2 xx ((t3, t4).1)).bind fun found5 =>
  (pSet found5 r2.1 ((t3, t4).2)).bind fun found6 =>
  some (r2.2, found6)
theorem s_w_strewn_b2 (o1 : Slot) (xx : Int) (ss : ((List Int) × (List (Str × Str × Str × Str × Int)))) : ((mgName 3) (eI xx) [.io 0 (.lst (ss.1.map eI)), o1, .own (.lst (ss.2.map (eT5 eS eS eS eS eI))), .no, .no]).bind m_w_strewn_b1 = (P_w_strewn_b2  xx ss).map (outN (fun ss : ((List Int) × (List (Str × Str × Str × Str × Int))) => [.io 0 (.lst (ss.1.map eI)), o1, .own (.lst (ss.2.map (eT5 eS eS eS eS eI))), .no, .no])) := c_body (by
  unfold P_w_strewn_b2 m_w_strewn_b1
  refine c_gname (e2 := [.io 0 (.lst (ss.1.map eI)), o1, .own (.lst (ss.2.map (eT5 eS eS eS eS eI))), .val (eI xx), .no]) rfl ?_
  walk_at "~aft seq set frz callF cons nameI:1 cons op nameV:1 c opK:2"
  refine c_pur x_add ?_
  walk_at "~nil"
  refine c_callK (bk := fun r2 => [.io 0 (.lst (r2.2.map eI)), o1, .own (.lst (ss.2.map (eT5 eS eS eS eS eI))), .val (eI xx), .no]) rfl rfl (q_w_take ss.1 (xx + 1)) (fun _ => by walk_at "fl") (fun _ => rfl) fun r2 => ?_
  walk_at "~frzD"
  refine c_setD (e2 := [.io 0 (.lst (r2.2.map eI)), o1, .own (.lst (ss.2.map (eT5 eS eS eS eS eI))), .val (eI xx), .val (eI r2.1)]) rfl ?_
  walk_at "~seqN asg tup cons frz op nameO:1 nameV:1 opK:2"
  refine c_cal (x_ix (e := (eT5 eS eS eS eS eI)) (l := ss.2)) fun t3 => ?_
  walk_at "~frzD cons frz op nameO:1 nameV:1 opK:2"
  refine c_cal (x_ix (e := (eT5 eS eS eS eS eI)) (l := ss.2)) fun t4 => ?_
  walk_at "~frzD nil"
  refine c_tupK _ rfl (Nat.le_of_ble_eq_true rfl) ?_
  walk_at "~frzD asgK gtup gcons gsub:1 nameV:1"
  refine c_gsubP (eT5 eS eS eS eS eI) ss.2 ((t3, t4).1) (fun found5 => [.io 0 (.lst (r2.2.map eI)), o1, .own (.lst (found5.map (eT5 eS eS eS eS eI))), .val (eI xx), .val (eI r2.1)]) rfl (fun _ => rfl) fun found5 => ?_
  walk_at "~gcons gsub:1 nameV:1"
  refine c_gsubP (eT5 eS eS eS eS eI) found5 ((t3, t4).2) (fun found6 => [.io 0 (.lst (r2.2.map eI)), o1, .own (.lst (found6.map (eT5 eS eS eS eS eI))), .val (eI xx), .val (eI r2.1)]) rfl (fun _ => rfl) fun found6 => ?_
  walk_at "~gnil"
  refine c_aftN (e2 := [.io 0 (.lst (r2.2.map eI)), o1, .own (.lst (found6.map (eT5 eS eS eS eS eI))), .no, .no]) rfl ?_
  exact rfl)
def m_w_strewn : MS := (mSeq (mSet 2 (mCB gList (mCons (mName 1) mNil)))
    (mSeq (mBef [3, 4] (mFor (mRange3 (mCons (mOp gMinus (mCB gLen (mCons (mName 2) mNil)) (mC (.int 1))) (mCons (mC (.int 0)) (mCons (mUn gNeg (mC (.int 1))) mNil)))) (mgName 3) m_w_strewn_b1))
    (mRetW [1, 2, 3, 4] (mName 2))))
def fm_w_strewn : FM := fmOf 2 5 m_w_strewn
theorem ok_w_strewn (T : Tx w K mg fd) : FnOk P w K mg base CX0 2 (He.ga K "_law_strewn") (fd 4) ["_law_box_here", "_law_some"] (spF K fm_w_strewn) :=
  fn_ok T.F_w_strewn sc_w_strewn fun cdv A outer s H E hr => (show VSs _ _ m_w_strewn from (vs_cons (vs_set (i := 2) sc_w_strewn.nd (ve_callTy call_list_of cd_list (by rfl) T.b_list (by decide +kernel) (va_cons (ve_name 1) va_nil)))
      (vs_cons (vs_bef (ws := [3, 4]) (vs_for PassesOwn.never (vi_range3 T.b_range (va_cons (ve_op op_sub od_sub (ve_callB call_len cd_len (by rfl) T.b_len PySem.boot_len (va_cons (ve_name 2) va_nil)) ve_int) (va_cons ve_int (va_cons (ve_un un_neg ud_neg ve_int) va_nil)))) (vg_name (j := 3) sc_w_strewn.nd) (vs_aft (ws := [3, 4]) (vs_cons (vs_set (i := 4) sc_w_strewn.nd (ve_frz (ve_callF (some 0) (FnOk.mono (ok_w_take T) (by decide)) hr T.g_w_take T.F_w_take.kp (bi_w_take T) (va_cons (ve_name 0) (va_cons (ve_op or_add od_add (ve_name 3) ve_int) va_nil)))))
      (vs_one (vs_asg (ve_tup (va_cons (ve_frz (ve_ix ix_seq od_ix (ve_name 2) (ve_name 4) (fun _ _ => rfl))) (va_cons (ve_frz (ve_ix ix_seq od_ix (ve_name 2) (ve_name 3) (fun _ _ => rfl))) va_nil))) (vg_tup (vgs_cons (vg_sub (i := 2) (ve_name 3)) (vgs_cons (vg_sub (i := 2) (ve_name 4)) vgs_nil)) (mgcons_len (mgcons_len mgnil_len)))))))))
      (vs_one (vs_retW (ve_name 2))))))
def P_w_strewn (box : (List Int)) (some_ : (List (Str × Str × Str × Str × Int))) : Option ((List (Str × Str × Str × Str × Int)) × (List Int)) :=
  (pRng3 ((some_.length : Int) - 1) 0 (-1)).bind fun l1 =>
  (forP (P_w_strewn_b2 ) l1 (box, some_)).bind fun s7 =>
  some (s7.2, s7.1)
theorem q_w_strewn (box : (List Int)) (some_ : (List (Str × Str × Str × Str × Int))) : fm_w_strewn [.io 0 (.lst (box.map eI)), .val ((eL (eT5 eS eS eS eS eI)) some_)] = (P_w_strewn box some_).map fun z => (.new (.lst (z.1.map (eT5 eS eS eS eS eI))), [.io 0 (.lst (z.2.map eI)), .no]) := by
  unfold fm_w_strewn m_w_strewn P_w_strewn
  refine c_fm (oR := fun z : ((List (Str × Str × Str × Str × Int)) × (List Int)) => .new (.lst (z.1.map (eT5 eS eS eS eS eI)))) (eR := fun z => [.io 0 (.lst (z.2.map eI)), .no, .no, .no, .no]) [.io 0 (.lst (box.map eI)), .val ((eL (eT5 eS eS eS eS eI)) some_), .no, .no, .no] rfl rfl ?_ (fun _ => rfl) (fun _ => by walk_at "ik") (fun _ => rfl)
  walk_at "~seq set cb cons nameV:1 nil"
  refine c_cbK _ rfl ?_
  refine c_pur x_listL ?_
  refine c_setN (e2 := [.io 0 (.lst (box.map eI)), .val ((eL (eT5 eS eS eS eS eI)) some_), .own (.lst (some_.map (eT5 eS eS eS eS eI))), .no, .no]) rfl ?_
  walk_at "~seqN seq"
  refine c_bef (e2 := [.io 0 (.lst (box.map eI)), .val ((eL (eT5 eS eS eS eS eI)) some_), .own (.lst (some_.map (eT5 eS eS eS eS eI))), .no, .no]) rfl ?_
  walk_at "~for rng3 cons op cb cons nameO:1 nil"
  refine c_cbK _ rfl ?_
  refine c_pur (x_lenL (e := (eT5 eS eS eS eS eI)) (l := some_)) ?_
  walk_at "~c opK:2"
  refine c_pur x_sub ?_
  walk_at "~cons c cons un c unK:1"
  refine c_pur x_neg ?_
  walk_at "~nil"
  refine c_rng3K rfl fun l1 => ?_
  refine c_loop (E := fun sE : ((List Int) × (List (Str × Str × Str × Str × Int))) => [.io 0 (.lst (sE.1.map eI)), .val ((eL (eT5 eS eS eS eS eI)) some_), .own (.lst (sE.2.map (eT5 eS eS eS eS eI))), .no, .no]) (forL_P (E := fun sE : ((List Int) × (List (Str × Str × Str × Str × Int))) => [.io 0 (.lst (sE.1.map eI)), .val ((eL (eT5 eS eS eS eS eI)) some_), .own (.lst (sE.2.map (eT5 eS eS eS eS eI))), .no, .no]) (ec := eI) (s_w_strewn_b2 (.val ((eL (eT5 eS eS eS eS eI)) some_))) _ (box, some_)) fun s7 => ?_
  walk_at "~seqN ret nameO:1"
  refine c_retK (.new (.lst (s7.2.map (eT5 eS eS eS eS eI)))) rfl (e2 := [.io 0 (.lst (s7.1.map eI)), .no, .no, .no, .no]) rfl ?_
  exact rfl
def m_w_ways_b1 : MS := (mAft [7, 8, 9, 10, 11, 12] (mSeq (mSet 9 (mFrz (mIf (mTest (mOp (gEq false) (mCallF fm_w_take (some 0) (mCons (mName 0) (mCons (mC (.int 3)) mNil))) (mC (.int 0)))) (mCallF fm_w_take (some 0) (mCons (mName 0) (mCons (mCB gLen (mCons (mName 1) mNil)) mNil))) (mOp gMod (mName 7) (mCB gLen (mCons (mName 1) mNil))))))
    (mSeq (mSet 10 (mFrz (mOp gMod (mOp gAdd (mOp gAdd (mName 9) (mC (.int 1))) (mOp gMul (mCallF fm_w_take (some 0) (mCons (mName 0) (mCons (mOp gMinus (mCB gLen (mCons (mName 1) mNil)) (mC (.int 1))) mNil))) (mCallF fm_w_take (some 0) (mCons (mName 0) (mCons (mC (.int 2)) mNil))))) (mCB gLen (mCons (mName 1) mNil)))))
    (mSeq (mSet 11 (mFrz (mCB (gInt2 fun i j => if j < i then j else i) (mCons (mC (.int 90000)) (mCons (mOp gIx (mLst (mCons (mFrz (mName 6)) (mCons (mFrz (mOp gMul (mC (.int 2)) (mName 6))) (mCons (mFrz (mOp gAdd (mName 6) (mC (.int 1)))) (mCons (mFrz (mOp gAdd (mC (.int 1)) (mCallF fm_w_take (some 0) (mCons (mName 0) (mCons (mName 5) mNil))))) mNil))))) (mCallF fm_w_take (some 0) (mCons (mName 0) (mCons (mC (.int 4)) mNil)))) mNil)))))
    (mSeq (mSet 12 (mFrz (mOp gIx (mLst (mCons (mFrz (mTup (mCons (mFrz (mOp gIx (mName 1) (mName 9))) (mCons (mFrz (mOp gIx (mName 1) (mName 10))) mNil)))) (mCons (mFrz (mTup (mCons (mFrz (mOp gIx (mName 1) (mName 10))) (mCons (mFrz (mOp gIx (mName 1) (mName 9))) mNil)))) mNil))) (mCallF fm_w_take (some 0) (mCons (mName 0) (mCons (mC (.int 2)) mNil))))))
    (mDrop (mMut 4 fApp (mCons (mFrz (mOp gCatT (mOp gCatT (mTup (mCons (mFrz (mName 8)) mNil)) (mName 12)) (mTup (mCons (mFrz (mOp gIx (mLst (mCons (mFrz (mC (.str "land"))) (mCons (mFrz (mC (.str "water"))) mNil))) (mCallF fm_w_take (some 0) (mCons (mName 0) (mCons (mC (.int 2)) mNil))))) (mCons (mFrz (mName 11)) mNil))))) mNil))))))))
def P_w_ways_b2 (camps : (List Str)) (high : Int) (low : Int) (xx : (Int × Str)) (ss : ((List Int) × (List (Str × Str × Str × Str × Int)))) : Option ((List Int) × (List (Str × Str × Str × Str × Int))) :=
  (P_w_take ss.1 3).bind fun r8 =>
  (if decide (r8.1 = 0) = true then
    (P_w_take r8.2 (camps.length : Int)).bind fun r9 =>
    some (r9.1, r9.2)
  else
    (pMod xx.1 (camps.length : Int)).bind fun t10 =>
    some (t10, r8.2)).bind fun z11 =>
  (P_w_take z11.2 ((camps.length : Int) - 1)).bind fun r12 =>
  (P_w_take r12.2 2).bind fun r13 =>
  (pMul r12.1 r13.1).bind fun t14 =>
  (pMod ((z11.1 + 1) + t14) (camps.length : Int)).bind fun t15 =>
  (P_w_take r13.2 high).bind fun r16 =>
  (P_w_take r16.2 4).bind fun r17 =>
  (pIx [low, (2 * low), (low + 1), (1 + r16.1)] r17.1).bind fun t18 =>
  (some (minI 90000 t18)).bind fun effort19 =>
  (pIx camps z11.1).bind fun t20 =>
  (pIx camps t15).bind fun t21 =>
  (pIx camps t15).bind fun t22 =>
  (pIx camps z11.1).bind fun t23 =>
  (P_w_take r17.2 2).bind fun r24 =>
  (pIx [(t20, t21), (t22, t23)] r24.1).bind fun t25 =>
  (P_w_take r24.2 2).bind fun r26 =>
  (pIx [("land" : Str), ("water" : Str)] r26.1).bind fun t27 =>
  (pApp ss.2 ((xx.2, t25.1, t25.2).1, (xx.2, t25.1, t25.2).2.1, (xx.2, t25.1, t25.2).2.2, (t27, effort19).1, (t27, effort19).2)).bind fun found28 =>
  some (r26.2, found28)
theorem s_w_ways_b2 (camps : (List Str)) (o2 : Slot) (o3 : Slot) (high : Int) (low : Int) (xx : (Int × Str)) (ss : ((List Int) × (List (Str × Str × Str × Str × Int)))) : ((mgTup (mgCons (mgName 7) (mgCons (mgName 8) mgNil))) ((eT2 eI eS) xx) [.io 0 (.lst (ss.1.map eI)), .val ((eL eS) camps), o2, o3, .own (.lst (ss.2.map (eT5 eS eS eS eS eI))), .val (eI high), .val (eI low), .no, .no, .no, .no, .no, .no]).bind m_w_ways_b1 = (P_w_ways_b2 camps high low xx ss).map (outN (fun ss : ((List Int) × (List (Str × Str × Str × Str × Int))) => [.io 0 (.lst (ss.1.map eI)), .val ((eL eS) camps), o2, o3, .own (.lst (ss.2.map (eT5 eS eS eS eS eI))), .val (eI high), .val (eI low), .no, .no, .no, .no, .no, .no])) := c_body (by
  unfold P_w_ways_b2 m_w_ways_b1
  walk_at "~gtup gcons"
  refine c_gname (e2 := [.io 0 (.lst (ss.1.map eI)), .val ((eL eS) camps), o2, o3, .own (.lst (ss.2.map (eT5 eS eS eS eS eI))), .val (eI high), .val (eI low), .val (eI xx.1), .no, .no, .no, .no, .no]) rfl ?_
  walk_at "~gcons"
  refine c_gname (e2 := [.io 0 (.lst (ss.1.map eI)), .val ((eL eS) camps), o2, o3, .own (.lst (ss.2.map (eT5 eS eS eS eS eI))), .val (eI high), .val (eI low), .val (eI xx.1), .val (eS xx.2), .no, .no, .no, .no]) rfl ?_
  walk_at "~gnil aft seq set frz if test op callF cons nameI:1 cons c nil"
  refine c_callK (bk := fun r8 => [.io 0 (.lst (r8.2.map eI)), .val ((eL eS) camps), o2, o3, .own (.lst (ss.2.map (eT5 eS eS eS eS eI))), .val (eI high), .val (eI low), .val (eI xx.1), .val (eS xx.2), .no, .no, .no, .no]) rfl rfl (q_w_take ss.1 3) (fun _ => by walk_at "fl") (fun _ => rfl) fun r8 => ?_
  walk_at "~c opK:2"
  refine c_pur x_eqI0 ?_
  walk_at "~testK"
  refine c_ifJ (fun z11 => (.dat (eI z11.1), [.io 0 (.lst (z11.2.map eI)), .val ((eL eS) camps), o2, o3, .own (.lst (ss.2.map (eT5 eS eS eS eS eI))), .val (eI high), .val (eI low), .val (eI xx.1), .val (eS xx.2), .no, .no, .no, .no])) ?_ ?_ fun z11 => ?_
  · refine c_callF ?_
    walk_at "~cons nameI:1 cons cb cons nameV:1 nil"
    refine c_cbK _ rfl ?_
    refine c_pur (x_lenL (e := eS) (l := camps)) ?_
    walk_at "~nil"
    refine c_callK (bk := fun r9 => [.io 0 (.lst (r9.2.map eI)), .val ((eL eS) camps), o2, o3, .own (.lst (ss.2.map (eT5 eS eS eS eS eI))), .val (eI high), .val (eI low), .val (eI xx.1), .val (eS xx.2), .no, .no, .no, .no]) rfl rfl (q_w_take r8.2 (camps.length : Int)) (fun _ => by walk_at "fl") (fun _ => rfl) fun r9 => ?_
    exact rfl
  · refine c_op ?_
    walk_at "~nameV:1 cb cons nameV:1 nil"
    refine c_cbK _ rfl ?_
    refine c_pur (x_lenL (e := eS) (l := camps)) ?_
    walk_at "~opK:2"
    refine c_cal x_mod fun t10 => ?_
    exact rfl
  walk_at "~frzD"
  refine c_setD (e2 := [.io 0 (.lst (z11.2.map eI)), .val ((eL eS) camps), o2, o3, .own (.lst (ss.2.map (eT5 eS eS eS eS eI))), .val (eI high), .val (eI low), .val (eI xx.1), .val (eS xx.2), .val (eI z11.1), .no, .no, .no]) rfl ?_
  walk_at "~seqN seq set frz op op op nameV:1 c opK:2"
  refine c_pur x_add ?_
  walk_at "~op callF cons nameI:1 cons op cb cons nameV:1 nil"
  refine c_cbK _ rfl ?_
  refine c_pur (x_lenL (e := eS) (l := camps)) ?_
  walk_at "~c opK:2"
  refine c_pur x_sub ?_
  walk_at "~nil"
  refine c_callK (bk := fun r12 => [.io 0 (.lst (r12.2.map eI)), .val ((eL eS) camps), o2, o3, .own (.lst (ss.2.map (eT5 eS eS eS eS eI))), .val (eI high), .val (eI low), .val (eI xx.1), .val (eS xx.2), .val (eI z11.1), .no, .no, .no]) rfl rfl (q_w_take z11.2 ((camps.length : Int) - 1)) (fun _ => by walk_at "fl") (fun _ => rfl) fun r12 => ?_
  walk_at "~callF cons nameI:1 cons c nil"
  refine c_callK (bk := fun r13 => [.io 0 (.lst (r13.2.map eI)), .val ((eL eS) camps), o2, o3, .own (.lst (ss.2.map (eT5 eS eS eS eS eI))), .val (eI high), .val (eI low), .val (eI xx.1), .val (eS xx.2), .val (eI z11.1), .no, .no, .no]) rfl rfl (q_w_take r12.2 2) (fun _ => by walk_at "fl") (fun _ => rfl) fun r13 => ?_
  walk_at "~opK:2"
  refine c_cal x_mul fun t14 => ?_
  walk_at "~opK:2"
  refine c_pur x_add ?_
  walk_at "~cb cons nameV:1 nil"
  refine c_cbK _ rfl ?_
  refine c_pur (x_lenL (e := eS) (l := camps)) ?_
  walk_at "~opK:2"
  refine c_cal x_mod fun t15 => ?_
  walk_at "~frzD"
  refine c_setD (e2 := [.io 0 (.lst (r13.2.map eI)), .val ((eL eS) camps), o2, o3, .own (.lst (ss.2.map (eT5 eS eS eS eS eI))), .val (eI high), .val (eI low), .val (eI xx.1), .val (eS xx.2), .val (eI z11.1), .val (eI t15), .no, .no]) rfl ?_
  walk_at "~seqN seq set frz cb cons c cons op lst cons frz nameV:1 frzD cons frz op c nameV:1 opK:2"
  refine c_pur (x_mulL (by decide)) ?_
  walk_at "~frzD cons frz op nameV:1 c opK:2"
  refine c_pur x_add ?_
  walk_at "~frzD cons frz op c callF cons nameI:1 cons nameV:1 nil"
  refine c_callK (bk := fun r16 => [.io 0 (.lst (r16.2.map eI)), .val ((eL eS) camps), o2, o3, .own (.lst (ss.2.map (eT5 eS eS eS eS eI))), .val (eI high), .val (eI low), .val (eI xx.1), .val (eS xx.2), .val (eI z11.1), .val (eI t15), .no, .no]) rfl rfl (q_w_take r13.2 high) (fun _ => by walk_at "fl") (fun _ => rfl) fun r16 => ?_
  walk_at "~opK:2"
  refine c_pur x_add ?_
  walk_at "~frzD nil"
  refine c_lstK ([low, (2 * low), (low + 1), (1 + r16.1)].map eI) rfl (Nat.le_of_ble_eq_true rfl) ?_
  walk_at "~callF cons nameI:1 cons c nil"
  refine c_callK (bk := fun r17 => [.io 0 (.lst (r17.2.map eI)), .val ((eL eS) camps), o2, o3, .own (.lst (ss.2.map (eT5 eS eS eS eS eI))), .val (eI high), .val (eI low), .val (eI xx.1), .val (eS xx.2), .val (eI z11.1), .val (eI t15), .no, .no]) rfl rfl (q_w_take r16.2 4) (fun _ => by walk_at "fl") (fun _ => rfl) fun r17 => ?_
  walk_at "~opK:2"
  refine c_cal (x_ix (e := eI) (l := [low, (2 * low), (low + 1), (1 + r16.1)])) fun t18 => ?_
  walk_at "~nil"
  refine c_cbK _ rfl ?_
  refine c_pur x_int2 ?_
  walk_at "~frzD"
  refine c_setDL (τ := Int) eI (minI 90000 t18) (fun effort19 => [.io 0 (.lst (r17.2.map eI)), .val ((eL eS) camps), o2, o3, .own (.lst (ss.2.map (eT5 eS eS eS eS eI))), .val (eI high), .val (eI low), .val (eI xx.1), .val (eS xx.2), .val (eI z11.1), .val (eI t15), .val (eI effort19), .no]) (fun _ => rfl) fun effort19 => ?_
  walk_at "~seqN seq set frz op lst cons frz tup cons frz op nameV:1 nameV:1 opK:2"
  refine c_cal (x_ix (e := eS) (l := camps)) fun t20 => ?_
  walk_at "~frzD cons frz op nameV:1 nameV:1 opK:2"
  refine c_cal (x_ix (e := eS) (l := camps)) fun t21 => ?_
  walk_at "~frzD nil"
  refine c_tupK _ rfl (Nat.le_of_ble_eq_true rfl) ?_
  walk_at "~frzD cons frz tup cons frz op nameV:1 nameV:1 opK:2"
  refine c_cal (x_ix (e := eS) (l := camps)) fun t22 => ?_
  walk_at "~frzD cons frz op nameV:1 nameV:1 opK:2"
  refine c_cal (x_ix (e := eS) (l := camps)) fun t23 => ?_
  walk_at "~frzD nil"
  refine c_tupK _ rfl (Nat.le_of_ble_eq_true rfl) ?_
  walk_at "~frzD nil"
  refine c_lstK ([(t20, t21), (t22, t23)].map (eT2 eS eS)) rfl (Nat.le_of_ble_eq_true rfl) ?_
  walk_at "~callF cons nameI:1 cons c nil"
  refine c_callK (bk := fun r24 => [.io 0 (.lst (r24.2.map eI)), .val ((eL eS) camps), o2, o3, .own (.lst (ss.2.map (eT5 eS eS eS eS eI))), .val (eI high), .val (eI low), .val (eI xx.1), .val (eS xx.2), .val (eI z11.1), .val (eI t15), .val (eI effort19), .no]) rfl rfl (q_w_take r17.2 2) (fun _ => by walk_at "fl") (fun _ => rfl) fun r24 => ?_
  walk_at "~opK:2"
  refine c_cal (x_ix (e := (eT2 eS eS)) (l := [(t20, t21), (t22, t23)])) fun t25 => ?_
  walk_at "~frzD"
  refine c_setD (e2 := [.io 0 (.lst (r24.2.map eI)), .val ((eL eS) camps), o2, o3, .own (.lst (ss.2.map (eT5 eS eS eS eS eI))), .val (eI high), .val (eI low), .val (eI xx.1), .val (eS xx.2), .val (eI z11.1), .val (eI t15), .val (eI effort19), .val ((eT2 eS eS) t25)]) rfl ?_
  walk_at "~seqN drop mut:1 cons frz op op tup cons frz nameV:1 frzD nil"
  refine c_tupK _ rfl (Nat.le_of_ble_eq_true rfl) ?_
  walk_at "~nameV:1 opK:2"
  refine c_pur (v := .dat ((eT3 eS eS eS) (xx.2, t25.1, t25.2))) (x_catT ⟨List.cons_ne_nil _ _, Nat.le_of_ble_eq_true rfl⟩) ?_
  walk_at "~tup cons frz op lst cons frz c frzD cons frz c frzD nil"
  refine c_lstK ([("land" : Str), ("water" : Str)].map eS) rfl (Nat.le_of_ble_eq_true rfl) ?_
  walk_at "~callF cons nameI:1 cons c nil"
  refine c_callK (bk := fun r26 => [.io 0 (.lst (r26.2.map eI)), .val ((eL eS) camps), o2, o3, .own (.lst (ss.2.map (eT5 eS eS eS eS eI))), .val (eI high), .val (eI low), .val (eI xx.1), .val (eS xx.2), .val (eI z11.1), .val (eI t15), .val (eI effort19), .val ((eT2 eS eS) t25)]) rfl rfl (q_w_take r24.2 2) (fun _ => by walk_at "fl") (fun _ => rfl) fun r26 => ?_
  walk_at "~opK:2"
  refine c_cal (x_ix (e := eS) (l := [("land" : Str), ("water" : Str)])) fun t27 => ?_
  walk_at "~frzD cons frz nameV:1 frzD nil"
  refine c_tupK _ rfl (Nat.le_of_ble_eq_true rfl) ?_
  walk_at "~opK:2"
  refine c_pur (v := .dat ((eT5 eS eS eS eS eI) ((xx.2, t25.1, t25.2).1, (xx.2, t25.1, t25.2).2.1, (xx.2, t25.1, t25.2).2.2, (t27, effort19).1, (t27, effort19).2))) (x_catT ⟨List.cons_ne_nil _ _, Nat.le_of_ble_eq_true rfl⟩) ?_
  walk_at "~frzD nil"
  refine c_mutP [(eT5 eS eS eS eS eI) ((xx.2, t25.1, t25.2).1, (xx.2, t25.1, t25.2).2.1, (xx.2, t25.1, t25.2).2.2, (t27, effort19).1, (t27, effort19).2)] (ss.2.map (eT5 eS eS eS eS eI)) (fun found28 => [.io 0 (.lst (r26.2.map eI)), .val ((eL eS) camps), o2, o3, .own (.lst (found28.map (eT5 eS eS eS eS eI))), .val (eI high), .val (eI low), .val (eI xx.1), .val (eS xx.2), .val (eI z11.1), .val (eI t15), .val (eI effort19), .val ((eT2 eS eS) t25)]) rfl rfl (x_app (e := (eT5 eS eS eS eS eI)) (l := ss.2) (x := ((xx.2, t25.1, t25.2).1, (xx.2, t25.1, t25.2).2.1, (xx.2, t25.1, t25.2).2.2, (t27, effort19).1, (t27, effort19).2))) (fun _ => rfl) fun found28 => ?_
  refine c_aftN (e2 := [.io 0 (.lst (r26.2.map eI)), .val ((eL eS) camps), o2, o3, .own (.lst (found28.map (eT5 eS eS eS eS eI))), .val (eI high), .val (eI low), .no, .no, .no, .no, .no, .no]) rfl ?_
  exact rfl)
def m_w_ways : MS := (mSeq (mPutU [3, 4] (mConsU (mFrz (mCallF fm_w_names (some 0) (mCons (mName 0) (mCons (mName 2) mNil)))) (mConsU (mLst mNil) mNil)))
    (mSeq (mPutU [5, 6] (mConsU (mFrz (mOp gIx (mLst (mCons (mFrz (mC (.int 3))) (mCons (mFrz (mC (.int 9))) (mCons (mFrz (mC (.int 90000))) mNil)))) (mCallF fm_w_take (some 0) (mCons (mName 0) (mCons (mC (.int 3)) mNil))))) (mConsU (mFrz (mOp gIx (mLst (mCons (mFrz (mC (.int 1))) (mCons (mFrz (mOp gAdd (mC (.int 1)) (mCallF fm_w_take (some 0) (mCons (mName 0) (mCons (mC (.int 4)) mNil))))) mNil))) (mCallF fm_w_take (some 0) (mCons (mName 0) (mCons (mC (.int 2)) mNil))))) mNil)))
    (mSeq (mBef [7, 8, 9, 10, 11, 12] (mFor (mEnum (mCons (mFrz (mOp gMul (mName 3) (mCB gInt (mCons (mOp (gCmp fun i j => decide (j < i)) (mCB gLen (mCons (mName 1) mNil)) (mC (.int 1))) mNil)))) mNil)) (mgTup (mgCons (mgName 7) (mgCons (mgName 8) mgNil))) m_w_ways_b1))
    (mRetW [1, 2, 3, 4, 5, 6, 7, 8, 9, 10, 11, 12] (mCallV fm_w_strewn (some 0) (mCons (mName 0) (mCons (mFrz (mName 4)) mNil)))))))
def fm_w_ways : FM := fmOf 3 13 m_w_ways
theorem ok_w_ways (T : Tx w K mg fd) : FnOk P w K mg base CX0 3 (He.ga K "_law_ways") (fd 5) ["_law_box_here", "_law_camps", "_law_many"] (spF K fm_w_ways) :=
  fn_ok T.F_w_ways sc_w_ways fun cdv A outer s H E hr => (show VSs _ _ m_w_ways from (vs_cons (vs_par (i := 3) (j := 4) sc_w_ways.nd (vau_cons (ve_frz (ve_callF (some 0) (FnOk.mono (ok_w_names T) (by decide)) hr T.g_w_names T.F_w_names.kp (bi_w_names T) (va_cons (ve_name 0) (va_cons (ve_name 2) va_nil)))) (vau_cons (ve_lst va_nil) vau_nil)))
      (vs_cons (vs_par (i := 5) (j := 6) sc_w_ways.nd (vau_cons (ve_frz (ve_ix ix_seq od_ix (ve_lst (va_cons (ve_frz ve_int) (va_cons (ve_frz ve_int) (va_cons (ve_frz ve_int) va_nil)))) (ve_callF (some 0) (FnOk.mono (ok_w_take T) (by decide)) hr T.g_w_take T.F_w_take.kp (bi_w_take T) (va_cons (ve_name 0) (va_cons ve_int va_nil))) (fun _ _ => rfl))) (vau_cons (ve_frz (ve_ix ix_seq od_ix (ve_lst (va_cons (ve_frz ve_int) (va_cons (ve_frz (ve_op or_add od_add ve_int (ve_callF (some 0) (FnOk.mono (ok_w_take T) (by decide)) hr T.g_w_take T.F_w_take.kp (bi_w_take T) (va_cons (ve_name 0) (va_cons ve_int va_nil))))) va_nil))) (ve_callF (some 0) (FnOk.mono (ok_w_take T) (by decide)) hr T.g_w_take T.F_w_take.kp (bi_w_take T) (va_cons (ve_name 0) (va_cons ve_int va_nil))) (fun _ _ => rfl))) vau_nil)))
      (vs_cons (vs_bef (ws := [7, 8, 9, 10, 11, 12]) (vs_for PassesOwn.never (vi_enum T.b_enumerate (va_cons (ve_frz (ve_op or_mul od_mul (ve_name 3) (ve_callTy call_int1 cd_int (by rfl) T.b_int (by decide +kernel) (va_cons (ve_cmp op_gt (od_cmp (p := fun i j => decide (j < i))) (ve_callB call_len cd_len (by rfl) T.b_len PySem.boot_len (va_cons (ve_name 1) va_nil)) ve_int (nomark _)) va_nil)))) va_nil)) (vg_tup (vgs_cons (vg_name (j := 7) sc_w_ways.nd) (vgs_cons (vg_name (j := 8) sc_w_ways.nd) vgs_nil)) (mgcons_len (mgcons_len mgnil_len))) (vs_aft (ws := [7, 8, 9, 10, 11, 12]) (vs_cons (vs_set (i := 9) sc_w_ways.nd (ve_frz (ve_if (vt_cmp (or_eq hr.units) od_eq (ve_callF (some 0) (FnOk.mono (ok_w_take T) (by decide)) hr T.g_w_take T.F_w_take.kp (bi_w_take T) (va_cons (ve_name 0) (va_cons ve_int va_nil))) ve_int (nomark _)) (ve_callF (some 0) (FnOk.mono (ok_w_take T) (by decide)) hr T.g_w_take T.F_w_take.kp (bi_w_take T) (va_cons (ve_name 0) (va_cons (ve_callB call_len cd_len (by rfl) T.b_len PySem.boot_len (va_cons (ve_name 1) va_nil)) va_nil))) (ve_op op_mod od_mod (ve_name 7) (ve_callB call_len cd_len (by rfl) T.b_len PySem.boot_len (va_cons (ve_name 1) va_nil))))))
      (vs_cons (vs_set (i := 10) sc_w_ways.nd (ve_frz (ve_op op_mod od_mod (ve_op or_add od_add (ve_op or_add od_add (ve_name 9) ve_int) (ve_op or_mul od_mul (ve_callF (some 0) (FnOk.mono (ok_w_take T) (by decide)) hr T.g_w_take T.F_w_take.kp (bi_w_take T) (va_cons (ve_name 0) (va_cons (ve_op op_sub od_sub (ve_callB call_len cd_len (by rfl) T.b_len PySem.boot_len (va_cons (ve_name 1) va_nil)) ve_int) va_nil))) (ve_callF (some 0) (FnOk.mono (ok_w_take T) (by decide)) hr T.g_w_take T.F_w_take.kp (bi_w_take T) (va_cons (ve_name 0) (va_cons ve_int va_nil))))) (ve_callB call_len cd_len (by rfl) T.b_len PySem.boot_len (va_cons (ve_name 1) va_nil)))))
      (vs_cons (vs_set (i := 11) sc_w_ways.nd (ve_frz (ve_callB (call_min2 rfl) (cd_int2 (f := fun i j => if j < i then j else i)) (by rfl) T.b_min (by decide +kernel) (va_cons ve_int (va_cons (ve_ix ix_seq od_ix (ve_lst (va_cons (ve_frz (ve_name 6)) (va_cons (ve_frz (ve_op or_mul od_mul ve_int (ve_name 6))) (va_cons (ve_frz (ve_op or_add od_add (ve_name 6) ve_int)) (va_cons (ve_frz (ve_op or_add od_add ve_int (ve_callF (some 0) (FnOk.mono (ok_w_take T) (by decide)) hr T.g_w_take T.F_w_take.kp (bi_w_take T) (va_cons (ve_name 0) (va_cons (ve_name 5) va_nil))))) va_nil))))) (ve_callF (some 0) (FnOk.mono (ok_w_take T) (by decide)) hr T.g_w_take T.F_w_take.kp (bi_w_take T) (va_cons (ve_name 0) (va_cons ve_int va_nil))) (fun _ _ => rfl)) va_nil)))))
      (vs_cons (vs_set (i := 12) sc_w_ways.nd (ve_frz (ve_ix ix_seq od_ix (ve_lst (va_cons (ve_frz (ve_tup (va_cons (ve_frz (ve_ix ix_seq od_ix (ve_name 1) (ve_name 9) (fun _ _ => rfl))) (va_cons (ve_frz (ve_ix ix_seq od_ix (ve_name 1) (ve_name 10) (fun _ _ => rfl))) va_nil)))) (va_cons (ve_frz (ve_tup (va_cons (ve_frz (ve_ix ix_seq od_ix (ve_name 1) (ve_name 10) (fun _ _ => rfl))) (va_cons (ve_frz (ve_ix ix_seq od_ix (ve_name 1) (ve_name 9) (fun _ _ => rfl))) va_nil)))) va_nil))) (ve_callF (some 0) (FnOk.mono (ok_w_take T) (by decide)) hr T.g_w_take T.F_w_take.kp (bi_w_take T) (va_cons (ve_name 0) (va_cons ve_int va_nil))) (fun _ _ => rfl))))
      (vs_one (vs_expr (ve_mut (i := 4) PySem.F.slot_list_append PySem.F.type_list_append mt_append md_append (va_cons (ve_frz (ve_op op_catT od_catT (ve_op op_catT od_catT (ve_tup (va_cons (ve_frz (ve_name 8)) va_nil)) (ve_name 12)) (ve_tup (va_cons (ve_frz (ve_ix ix_seq od_ix (ve_lst (va_cons (ve_frz ve_str) (va_cons (ve_frz ve_str) va_nil))) (ve_callF (some 0) (FnOk.mono (ok_w_take T) (by decide)) hr T.g_w_take T.F_w_take.kp (bi_w_take T) (va_cons (ve_name 0) (va_cons ve_int va_nil))) (fun _ _ => rfl))) (va_cons (ve_frz (ve_name 11)) va_nil))))) va_nil)))))))))))
      (vs_one (vs_retW (ve_callV (some 0) (FnOk.mono (ok_w_strewn T) (by decide)) hr T.g_w_strewn T.F_w_strewn.kp (bi_w_strewn T) (va_cons (ve_name 0) (va_cons (ve_frz (ve_name 4)) va_nil)))))))))
def P_w_ways (box : (List Int)) (camps : (List Str)) (many : Int) : Option ((List (Str × Str × Str × Str × Int)) × (List Int)) :=
  (P_w_names box many).bind fun r1 =>
  (P_w_take r1.2 3).bind fun r2 =>
  (pIx [3, 9, 90000] r2.1).bind fun t3 =>
  (P_w_take r2.2 4).bind fun r4 =>
  (P_w_take r4.2 2).bind fun r5 =>
  (pIx [1, (1 + r4.1)] r5.1).bind fun t6 =>
  (pRep r1.1 (if decide (1 < (camps.length : Int)) = true then 1 else 0)).bind fun t7 =>
  (forP (P_w_ways_b2 camps t3 t6) (enumI 0 t7) (r5.2, ([] : (List (Str × Str × Str × Str × Int))))).bind fun s29 =>
  (P_w_strewn s29.1 s29.2).bind fun r30 =>
  some (r30.1, r30.2)
theorem q_w_ways (box : (List Int)) (camps : (List Str)) (many : Int) : fm_w_ways [.io 0 (.lst (box.map eI)), .val ((eL eS) camps), .val (eI many)] = (P_w_ways box camps many).map fun z => (.new (.lst (z.1.map (eT5 eS eS eS eS eI))), [.io 0 (.lst (z.2.map eI)), .no, .no]) := by
  unfold fm_w_ways m_w_ways P_w_ways
  refine c_fm (oR := fun z : ((List (Str × Str × Str × Str × Int)) × (List Int)) => .new (.lst (z.1.map (eT5 eS eS eS eS eI)))) (eR := fun z => [.io 0 (.lst (z.2.map eI)), .no, .no, .no, .no, .no, .no, .no, .no, .no, .no, .no, .no]) [.io 0 (.lst (box.map eI)), .val ((eL eS) camps), .val (eI many), .no, .no, .no, .no, .no, .no, .no, .no, .no, .no] rfl rfl ?_ (fun _ => rfl) (fun _ => by walk_at "ik") (fun _ => rfl)
  walk_at "~seq putU consU frz callF cons nameI:1 cons nameV:1 nil"
  refine c_callK (bk := fun r1 => [.io 0 (.lst (r1.2.map eI)), .val ((eL eS) camps), .val (eI many), .no, .no, .no, .no, .no, .no, .no, .no, .no, .no]) rfl rfl (q_w_names box many) (fun _ => by walk_at "fl") (fun _ => rfl) fun r1 => ?_
  walk_at "~frzN frzSD consU lst nil"
  refine c_lstK (([] : List Int).map eI) rfl (Nat.le_of_ble_eq_true rfl) ?_
  walk_at "~frzSN nil"
  refine c_putUK [.io 0 (.lst (r1.2.map eI)), .val ((eL eS) camps), .val (eI many), .val ((eL eS) r1.1), .own (.lst (([] : (List (Str × Str × Str × Str × Int))).map (eT5 eS eS eS eS eI))), .no, .no, .no, .no, .no, .no, .no, .no] rfl ?_
  walk_at "~seqN seq putU consU frz op lst cons frz c frzD cons frz c frzD cons frz c frzD nil"
  refine c_lstK ([3, 9, 90000].map eI) rfl (Nat.le_of_ble_eq_true rfl) ?_
  walk_at "~callF cons nameI:1 cons c nil"
  refine c_callK (bk := fun r2 => [.io 0 (.lst (r2.2.map eI)), .val ((eL eS) camps), .val (eI many), .val ((eL eS) r1.1), .own (.lst (([] : (List (Str × Str × Str × Str × Int))).map (eT5 eS eS eS eS eI))), .no, .no, .no, .no, .no, .no, .no, .no]) rfl rfl (q_w_take r1.2 3) (fun _ => by walk_at "fl") (fun _ => rfl) fun r2 => ?_
  walk_at "~opK:2"
  refine c_cal (x_ix (e := eI) (l := [3, 9, 90000])) fun t3 => ?_
  walk_at "~frzD frzSD consU frz op lst cons frz c frzD cons frz op c callF cons nameI:1 cons c nil"
  refine c_callK (bk := fun r4 => [.io 0 (.lst (r4.2.map eI)), .val ((eL eS) camps), .val (eI many), .val ((eL eS) r1.1), .own (.lst (([] : (List (Str × Str × Str × Str × Int))).map (eT5 eS eS eS eS eI))), .no, .no, .no, .no, .no, .no, .no, .no]) rfl rfl (q_w_take r2.2 4) (fun _ => by walk_at "fl") (fun _ => rfl) fun r4 => ?_
  walk_at "~opK:2"
  refine c_pur x_add ?_
  walk_at "~frzD nil"
  refine c_lstK ([1, (1 + r4.1)].map eI) rfl (Nat.le_of_ble_eq_true rfl) ?_
  walk_at "~callF cons nameI:1 cons c nil"
  refine c_callK (bk := fun r5 => [.io 0 (.lst (r5.2.map eI)), .val ((eL eS) camps), .val (eI many), .val ((eL eS) r1.1), .own (.lst (([] : (List (Str × Str × Str × Str × Int))).map (eT5 eS eS eS eS eI))), .no, .no, .no, .no, .no, .no, .no, .no]) rfl rfl (q_w_take r4.2 2) (fun _ => by walk_at "fl") (fun _ => rfl) fun r5 => ?_
  walk_at "~opK:2"
  refine c_cal (x_ix (e := eI) (l := [1, (1 + r4.1)])) fun t6 => ?_
  walk_at "~frzD frzSD nil"
  refine c_putUK [.io 0 (.lst (r5.2.map eI)), .val ((eL eS) camps), .val (eI many), .val ((eL eS) r1.1), .own (.lst (([] : (List (Str × Str × Str × Str × Int))).map (eT5 eS eS eS eS eI))), .val (eI t3), .val (eI t6), .no, .no, .no, .no, .no, .no] rfl ?_
  walk_at "~seqN seq"
  refine c_bef (e2 := [.io 0 (.lst (r5.2.map eI)), .val ((eL eS) camps), .val (eI many), .val ((eL eS) r1.1), .own (.lst (([] : (List (Str × Str × Str × Str × Int))).map (eT5 eS eS eS eS eI))), .val (eI t3), .val (eI t6), .no, .no, .no, .no, .no, .no]) rfl ?_
  walk_at "~for enum cons frz op nameV:1 cb cons op cb cons nameV:1 nil"
  refine c_cbK _ rfl ?_
  refine c_pur (x_lenL (e := eS) (l := camps)) ?_
  walk_at "~c opK:2"
  refine c_pur x_cmp ?_
  walk_at "~nil"
  refine c_cbK _ rfl ?_
  refine c_pur x_intB ?_
  walk_at "~opK:2"
  refine c_cal (x_rep (e := eS)) fun t7 => ?_
  walk_at "~frzN nil"
  refine c_enumK (l := t7) (ec := eS) rfl ?_
  refine c_loop (E := fun sE : ((List Int) × (List (Str × Str × Str × Str × Int))) => [.io 0 (.lst (sE.1.map eI)), .val ((eL eS) camps), .val (eI many), .val ((eL eS) r1.1), .own (.lst (sE.2.map (eT5 eS eS eS eS eI))), .val (eI t3), .val (eI t6), .no, .no, .no, .no, .no, .no]) (forL_P (E := fun sE : ((List Int) × (List (Str × Str × Str × Str × Int))) => [.io 0 (.lst (sE.1.map eI)), .val ((eL eS) camps), .val (eI many), .val ((eL eS) r1.1), .own (.lst (sE.2.map (eT5 eS eS eS eS eI))), .val (eI t3), .val (eI t6), .no, .no, .no, .no, .no, .no]) (ec := (eT2 eI eS)) (s_w_ways_b2 camps (.val (eI many)) (.val ((eL eS) r1.1)) t3 t6) _ (r5.2, ([] : (List (Str × Str × Str × Str × Int))))) fun s29 => ?_
  walk_at "~seqN ret callV cons nameI:1 cons frz nameO:1"
  refine c_frzO rfl (e2 := [.io 0 (.lst (s29.1.map eI)), .val ((eL eS) camps), .val (eI many), .val ((eL eS) r1.1), .val ((eL (eT5 eS eS eS eS eI)) s29.2), .val (eI t3), .val (eI t6), .no, .no, .no, .no, .no, .no]) rfl ?_
  walk_at "~nil"
  refine c_callVK (bk := fun r30 => [.io 0 (.lst (r30.2.map eI)), .val ((eL eS) camps), .val (eI many), .val ((eL eS) r1.1), .val ((eL (eT5 eS eS eS eS eI)) s29.2), .val (eI t3), .val (eI t6), .no, .no, .no, .no, .no, .no]) rfl (q_w_strewn s29.1 s29.2) (fun _ => rfl) fun r30 => ?_
  refine c_retK (.new (.lst (r30.1.map (eT5 eS eS eS eS eI)))) rfl (e2 := [.io 0 (.lst (r30.2.map eI)), .no, .no, .no, .no, .no, .no, .no, .no, .no, .no, .no, .no]) rfl ?_
  exact rfl
def m_w_map : MS := (mSeq (mSet 2 (mFrz (mCallF fm_w_names (some 0) (mCons (mName 0) (mCons (mOp gAdd (mC (.int 1)) (mCallF fm_w_take (some 0) (mCons (mName 0) (mCons (mName 1) mNil)))) mNil)))))
    (mRetW [1, 2] (mTup (mCons (mFrz (mCallV fm_w_ways (some 0) (mCons (mName 0) (mCons (mFrz (mName 2)) (mCons (mFrz (mCallF fm_w_take (some 0) (mCons (mName 0) (mCons (mOp gAdd (mCB (gInt2 fun i j => if j < i then j else i) (mCons (mC (.int 16)) (mCons (mOp gMul (mC (.int 2)) (mName 1)) mNil))) (mC (.int 1))) mNil)))) mNil))))) (mCons (mFrz (mName 2)) mNil)))))
def fm_w_map : FM := fmOf 2 3 m_w_map
theorem ok_w_map (T : Tx w K mg fd) : FnOk P w K mg base CX0 4 (He.ga K "_law_map") (fd 6) ["_law_box_here", "_law_most"] (spF K fm_w_map) :=
  fn_ok T.F_w_map sc_w_map fun cdv A outer s H E hr => (show VSs _ _ m_w_map from (vs_cons (vs_set (i := 2) sc_w_map.nd (ve_frz (ve_callF (some 0) (FnOk.mono (ok_w_names T) (by decide)) hr T.g_w_names T.F_w_names.kp (bi_w_names T) (va_cons (ve_name 0) (va_cons (ve_op or_add od_add ve_int (ve_callF (some 0) (FnOk.mono (ok_w_take T) (by decide)) hr T.g_w_take T.F_w_take.kp (bi_w_take T) (va_cons (ve_name 0) (va_cons (ve_name 1) va_nil)))) va_nil)))))
      (vs_one (vs_retW (ve_tup (va_cons (ve_frz (ve_callV (some 0) (FnOk.mono (ok_w_ways T) (by decide)) hr T.g_w_ways T.F_w_ways.kp (bi_w_ways T) (va_cons (ve_name 0) (va_cons (ve_frz (ve_name 2)) (va_cons (ve_frz (ve_callF (some 0) (FnOk.mono (ok_w_take T) (by decide)) hr T.g_w_take T.F_w_take.kp (bi_w_take T) (va_cons (ve_name 0) (va_cons (ve_op or_add od_add (ve_callB (call_min2 rfl) (cd_int2 (f := fun i j => if j < i then j else i)) (by rfl) T.b_min (by decide +kernel) (va_cons ve_int (va_cons (ve_op or_mul od_mul ve_int (ve_name 1)) va_nil))) ve_int) va_nil)))) va_nil))))) (va_cons (ve_frz (ve_name 2)) va_nil)))))))
def P_w_map (box : (List Int)) (most : Int) : Option (((List (Str × Str × Str × Str × Int)) × (List Str)) × (List Int)) :=
  (P_w_take box most).bind fun r1 =>
  (P_w_names r1.2 (1 + r1.1)).bind fun r2 =>
  (P_w_take r2.2 ((minI 16 (2 * most)) + 1)).bind fun r3 =>
  (P_w_ways r3.2 r2.1 r3.1).bind fun r4 =>
  some ((r4.1, r2.1), r4.2)
theorem q_w_map (box : (List Int)) (most : Int) : fm_w_map [.io 0 (.lst (box.map eI)), .val (eI most)] = (P_w_map box most).map fun z => (.dat ((eT2 (eL (eT5 eS eS eS eS eI)) (eL eS)) z.1), [.io 0 (.lst (z.2.map eI)), .no]) := by
  unfold fm_w_map m_w_map P_w_map
  refine c_fm (oR := fun z : (((List (Str × Str × Str × Str × Int)) × (List Str)) × (List Int)) => .dat ((eT2 (eL (eT5 eS eS eS eS eI)) (eL eS)) z.1)) (eR := fun z => [.io 0 (.lst (z.2.map eI)), .no, .no]) [.io 0 (.lst (box.map eI)), .val (eI most), .no] rfl rfl ?_ (fun _ => rfl) (fun _ => by walk_at "ik") (fun _ => rfl)
  walk_at "~seq set frz callF cons nameI:1 cons op c callF cons nameI:1 cons nameV:1 nil"
  refine c_callK (bk := fun r1 => [.io 0 (.lst (r1.2.map eI)), .val (eI most), .no]) rfl rfl (q_w_take box most) (fun _ => by walk_at "fl") (fun _ => rfl) fun r1 => ?_
  walk_at "~opK:2"
  refine c_pur x_add ?_
  walk_at "~nil"
  refine c_callK (bk := fun r2 => [.io 0 (.lst (r2.2.map eI)), .val (eI most), .no]) rfl rfl (q_w_names r1.2 (1 + r1.1)) (fun _ => by walk_at "fl") (fun _ => rfl) fun r2 => ?_
  walk_at "~frzN"
  refine c_setD (e2 := [.io 0 (.lst (r2.2.map eI)), .val (eI most), .val ((eL eS) r2.1)]) rfl ?_
  walk_at "~seqN ret tup cons frz callV cons nameI:1 cons frz nameV:1 frzD cons frz callF cons nameI:1 cons op cb cons c cons op c nameV:1 opK:2"
  refine c_pur (x_mulL (by decide)) ?_
  walk_at "~nil"
  refine c_cbK _ rfl ?_
  refine c_pur x_int2 ?_
  walk_at "~c opK:2"
  refine c_pur x_add ?_
  walk_at "~nil"
  refine c_callK (bk := fun r3 => [.io 0 (.lst (r3.2.map eI)), .val (eI most), .val ((eL eS) r2.1)]) rfl rfl (q_w_take r2.2 ((minI 16 (2 * most)) + 1)) (fun _ => by walk_at "fl") (fun _ => rfl) fun r3 => ?_
  walk_at "~frzD nil"
  refine c_callVK (bk := fun r4 => [.io 0 (.lst (r4.2.map eI)), .val (eI most), .val ((eL eS) r2.1)]) rfl (q_w_ways r3.2 r2.1 r3.1) (fun _ => rfl) fun r4 => ?_
  walk_at "~frzN cons frz nameV:1 frzD nil"
  refine c_tupK _ rfl (Nat.le_of_ble_eq_true rfl) ?_
  refine c_retK (.dat ((eT2 (eL (eT5 eS eS eS eS eI)) (eL eS)) (r4.1, r2.1))) rfl (e2 := [.io 0 (.lst (r4.2.map eI)), .no, .no]) rfl ?_
  exact rfl
def m_w_strewn_2_b1 : MS := (mAft [3, 4] (mSeq (mSet 4 (mFrz (mCallF fm_w_take (some 0) (mCons (mName 0) (mCons (mOp gAdd (mName 3) (mC (.int 1))) mNil)))))
    (mAsg (mTup (mCons (mFrz (mOp gIx (mName 2) (mName 4))) (mCons (mFrz (mOp gIx (mName 2) (mName 3))) mNil))) (mgTup (mgCons (mgSub 2 (mName 3)) (mgCons (mgSub 2 (mName 4)) mgNil))))))
def P_w_strewn_2_b2  (xx : Int) (ss : ((List Int) × (List Str))) : Option ((List Int) × (List Str)) :=
  (P_w_take ss.1 (xx + 1)).bind fun r2 =>
  (pIx ss.2 r2.1).bind fun t3 =>
  (pIx ss.2 xx).bind fun t4 =>
  (pSet ss.2 xx ((t3, t4).1)).bind fun found5 =>
  (pSet found5 r2.1 ((t3, t4).2)).bind fun found6 =>
  some (r2.2, found6)
theorem s_w_strewn_2_b2 (o1 : Slot) (xx : Int) (ss : ((List Int) × (List Str))) : ((mgName 3) (eI xx) [.io 0 (.lst (ss.1.map eI)), o1, .own (.lst (ss.2.map eS)), .no, .no]).bind m_w_strewn_2_b1 = (P_w_strewn_2_b2  xx ss).map (outN (fun ss : ((List Int) × (List Str)) => [.io 0 (.lst (ss.1.map eI)), o1, .own (.lst (ss.2.map eS)), .no, .no])) := c_body (by
  unfold P_w_strewn_2_b2 m_w_strewn_2_b1
  refine c_gname (e2 := [.io 0 (.lst (ss.1.map eI)), o1, .own (.lst (ss.2.map eS)), .val (eI xx), .no]) rfl ?_
  walk_at "~aft seq set frz callF cons nameI:1 cons op nameV:1 c opK:2"
  refine c_pur x_add ?_
  walk_at "~nil"
  refine c_callK (bk := fun r2 => [.io 0 (.lst (r2.2.map eI)), o1, .own (.lst (ss.2.map eS)), .val (eI xx), .no]) rfl rfl (q_w_take ss.1 (xx + 1)) (fun _ => by walk_at "fl") (fun _ => rfl) fun r2 => ?_
  walk_at "~frzD"
  refine c_setD (e2 := [.io 0 (.lst (r2.2.map eI)), o1, .own (.lst (ss.2.map eS)), .val (eI xx), .val (eI r2.1)]) rfl ?_
  walk_at "~seqN asg tup cons frz op nameO:1 nameV:1 opK:2"
  refine c_cal (x_ix (e := eS) (l := ss.2)) fun t3 => ?_
  walk_at "~frzD cons frz op nameO:1 nameV:1 opK:2"
  refine c_cal (x_ix (e := eS) (l := ss.2)) fun t4 => ?_
  walk_at "~frzD nil"
  refine c_tupK _ rfl (Nat.le_of_ble_eq_true rfl) ?_
  walk_at "~frzD asgK gtup gcons gsub:1 nameV:1"
  refine c_gsubP eS ss.2 ((t3, t4).1) (fun found5 => [.io 0 (.lst (r2.2.map eI)), o1, .own (.lst (found5.map eS)), .val (eI xx), .val (eI r2.1)]) rfl (fun _ => rfl) fun found5 => ?_
  walk_at "~gcons gsub:1 nameV:1"
  refine c_gsubP eS found5 ((t3, t4).2) (fun found6 => [.io 0 (.lst (r2.2.map eI)), o1, .own (.lst (found6.map eS)), .val (eI xx), .val (eI r2.1)]) rfl (fun _ => rfl) fun found6 => ?_
  walk_at "~gnil"
  refine c_aftN (e2 := [.io 0 (.lst (r2.2.map eI)), o1, .own (.lst (found6.map eS)), .no, .no]) rfl ?_
  exact rfl)
def m_w_strewn_2 : MS := (mSeq (mSet 2 (mCB gList (mCons (mName 1) mNil)))
    (mSeq (mBef [3, 4] (mFor (mRange3 (mCons (mOp gMinus (mCB gLen (mCons (mName 2) mNil)) (mC (.int 1))) (mCons (mC (.int 0)) (mCons (mUn gNeg (mC (.int 1))) mNil)))) (mgName 3) m_w_strewn_2_b1))
    (mRetW [1, 2, 3, 4] (mName 2))))
def fm_w_strewn_2 : FM := fmOf 2 5 m_w_strewn_2
theorem ok_w_strewn_2 (T : Tx w K mg fd) : FnOk P w K mg base CX0 2 (He.ga K "_law_strewn") (fd 4) ["_law_box_here", "_law_some"] (spF K fm_w_strewn_2) :=
  fn_ok T.F_w_strewn sc_w_strewn fun cdv A outer s H E hr => (show VSs _ _ m_w_strewn_2 from (vs_cons (vs_set (i := 2) sc_w_strewn.nd (ve_callTy call_list_of cd_list (by rfl) T.b_list (by decide +kernel) (va_cons (ve_name 1) va_nil)))
      (vs_cons (vs_bef (ws := [3, 4]) (vs_for PassesOwn.never (vi_range3 T.b_range (va_cons (ve_op op_sub od_sub (ve_callB call_len cd_len (by rfl) T.b_len PySem.boot_len (va_cons (ve_name 2) va_nil)) ve_int) (va_cons ve_int (va_cons (ve_un un_neg ud_neg ve_int) va_nil)))) (vg_name (j := 3) sc_w_strewn.nd) (vs_aft (ws := [3, 4]) (vs_cons (vs_set (i := 4) sc_w_strewn.nd (ve_frz (ve_callF (some 0) (FnOk.mono (ok_w_take T) (by decide)) hr T.g_w_take T.F_w_take.kp (bi_w_take T) (va_cons (ve_name 0) (va_cons (ve_op or_add od_add (ve_name 3) ve_int) va_nil)))))
      (vs_one (vs_asg (ve_tup (va_cons (ve_frz (ve_ix ix_seq od_ix (ve_name 2) (ve_name 4) (fun _ _ => rfl))) (va_cons (ve_frz (ve_ix ix_seq od_ix (ve_name 2) (ve_name 3) (fun _ _ => rfl))) va_nil))) (vg_tup (vgs_cons (vg_sub (i := 2) (ve_name 3)) (vgs_cons (vg_sub (i := 2) (ve_name 4)) vgs_nil)) (mgcons_len (mgcons_len mgnil_len)))))))))
      (vs_one (vs_retW (ve_name 2))))))
def P_w_strewn_2 (box : (List Int)) (some_ : (List Str)) : Option ((List Str) × (List Int)) :=
  (pRng3 ((some_.length : Int) - 1) 0 (-1)).bind fun l1 =>
  (forP (P_w_strewn_2_b2 ) l1 (box, some_)).bind fun s7 =>
  some (s7.2, s7.1)
theorem q_w_strewn_2 (box : (List Int)) (some_ : (List Str)) : fm_w_strewn_2 [.io 0 (.lst (box.map eI)), .val ((eL eS) some_)] = (P_w_strewn_2 box some_).map fun z => (.new (.lst (z.1.map eS)), [.io 0 (.lst (z.2.map eI)), .no]) := by
  unfold fm_w_strewn_2 m_w_strewn_2 P_w_strewn_2
  refine c_fm (oR := fun z : ((List Str) × (List Int)) => .new (.lst (z.1.map eS))) (eR := fun z => [.io 0 (.lst (z.2.map eI)), .no, .no, .no, .no]) [.io 0 (.lst (box.map eI)), .val ((eL eS) some_), .no, .no, .no] rfl rfl ?_ (fun _ => rfl) (fun _ => by walk_at "ik") (fun _ => rfl)
  walk_at "~seq set cb cons nameV:1 nil"
  refine c_cbK _ rfl ?_
  refine c_pur x_listL ?_
  refine c_setN (e2 := [.io 0 (.lst (box.map eI)), .val ((eL eS) some_), .own (.lst (some_.map eS)), .no, .no]) rfl ?_
  walk_at "~seqN seq"
  refine c_bef (e2 := [.io 0 (.lst (box.map eI)), .val ((eL eS) some_), .own (.lst (some_.map eS)), .no, .no]) rfl ?_
  walk_at "~for rng3 cons op cb cons nameO:1 nil"
  refine c_cbK _ rfl ?_
  refine c_pur (x_lenL (e := eS) (l := some_)) ?_
  walk_at "~c opK:2"
  refine c_pur x_sub ?_
  walk_at "~cons c cons un c unK:1"
  refine c_pur x_neg ?_
  walk_at "~nil"
  refine c_rng3K rfl fun l1 => ?_
  refine c_loop (E := fun sE : ((List Int) × (List Str)) => [.io 0 (.lst (sE.1.map eI)), .val ((eL eS) some_), .own (.lst (sE.2.map eS)), .no, .no]) (forL_P (E := fun sE : ((List Int) × (List Str)) => [.io 0 (.lst (sE.1.map eI)), .val ((eL eS) some_), .own (.lst (sE.2.map eS)), .no, .no]) (ec := eI) (s_w_strewn_2_b2 (.val ((eL eS) some_))) _ (box, some_)) fun s7 => ?_
  walk_at "~seqN ret nameO:1"
  refine c_retK (.new (.lst (s7.2.map eS))) rfl (e2 := [.io 0 (.lst (s7.1.map eI)), .no, .no, .no, .no]) rfl ?_
  exact rfl
def m_w_rows_from_b1 : MS := (mAft [5, 6, 7] (mIfS (mOr (mTest (mOp (gDIn true) (mName 5) (mName 2))) (mTest (mOp (gCmp fun i j => decide (i < j)) (mName 6) (mOp gIx (mOp gDGet (mName 2) (mName 5)) (mC (.int 0)))))) (mAft [] (mAsg (mTup (mCons (mFrz (mName 6)) (mCons (mFrz (mName 7)) mNil))) (mgPut 2 (mName 5)))) (mAft [] mSkip)))
def P_w_rows_from_b2  (xx : (Str × (Int × (List Str)))) (ss : (List (Str × (Int × (List Str))))) : Option (List (Str × (Int × (List Str)))) :=
  (if (!(look ss xx.1).isSome) = true then
    some true
  else
    (look ss xx.1).bind fun t2 =>
    some (decide (xx.2.1 < t2.1))).bind fun z3 =>
  (if z3 = true then
    (pPut ss xx.1 (xx.2.1, xx.2.2)).bind fun found5 =>
    some found5
  else
    some ss).bind fun z4 =>
  some z4
theorem s_w_rows_from_b2 (o0 : Slot) (o1 : Slot) (o3 : Slot) (o4 : Slot) (xx : (Str × (Int × (List Str)))) (ss : (List (Str × (Int × (List Str))))) : ((mgTup (mgCons (mgName 5) (mgCons (mgTup (mgCons (mgName 6) (mgCons (mgName 7) mgNil))) mgNil))) ((eT2 eS (eT2 eI (eL eS))) xx) [o0, o1, .own (.dct (ss.map (eP eS (eT2 eI (eL eS))))), o3, o4, .no, .no, .no, .no, .no, .no, .no, .no, .no, .no]).bind m_w_rows_from_b1 = (P_w_rows_from_b2  xx ss).map (outN (fun ss : (List (Str × (Int × (List Str)))) => [o0, o1, .own (.dct (ss.map (eP eS (eT2 eI (eL eS))))), o3, o4, .no, .no, .no, .no, .no, .no, .no, .no, .no, .no])) := c_body (by
  unfold P_w_rows_from_b2 m_w_rows_from_b1
  walk_at "~gtup gcons"
  refine c_gname (e2 := [o0, o1, .own (.dct (ss.map (eP eS (eT2 eI (eL eS))))), o3, o4, .val (eS xx.1), .no, .no, .no, .no, .no, .no, .no, .no, .no]) rfl ?_
  walk_at "~gcons gtup gcons"
  refine c_gname (e2 := [o0, o1, .own (.dct (ss.map (eP eS (eT2 eI (eL eS))))), o3, o4, .val (eS xx.1), .val (eI xx.2.1), .no, .no, .no, .no, .no, .no, .no, .no]) rfl ?_
  walk_at "~gcons"
  refine c_gname (e2 := [o0, o1, .own (.dct (ss.map (eP eS (eT2 eI (eL eS))))), o3, o4, .val (eS xx.1), .val (eI xx.2.1), .val ((eL eS) xx.2.2), .no, .no, .no, .no, .no, .no, .no]) rfl ?_
  walk_at "~gnil gnil aft ifS orB test op nameV:1 nameO:1 opK:2"
  refine c_pur (x_din1 keyE_str) ?_
  walk_at "~testK"
  refine c_ifJ (fun z3 => (z3, [o0, o1, .own (.dct (ss.map (eP eS (eT2 eI (eL eS))))), o3, o4, .val (eS xx.1), .val (eI xx.2.1), .val ((eL eS) xx.2.2), .no, .no, .no, .no, .no, .no, .no])) ?_ ?_ fun z3 => ?_
  · exact rfl
  · refine c_test ?_
    walk_at "~op nameV:1 op op nameO:1 nameV:1 opK:2"
    refine c_cal (x_dget (ev := (eT2 eI (eL eS))) (l := ss) keyE_str) fun t2 => ?_
    walk_at "~c opK:2"
    refine c_pur (x_ixT rfl) ?_
    walk_at "~opK:2"
    refine c_pur x_cmp ?_
    walk_at "~testK"
    exact rfl
  refine c_ifJ (fun z4 : (List (Str × (Int × (List Str)))) => (.nx, [o0, o1, .own (.dct (z4.map (eP eS (eT2 eI (eL eS))))), o3, o4, .val (eS xx.1), .val (eI xx.2.1), .val ((eL eS) xx.2.2), .no, .no, .no, .no, .no, .no, .no])) ?_ ?_ fun z4 => ?_
  · refine c_aft ?_
    walk_at "~asg tup cons frz nameV:1 frzD cons frz nameV:1 frzD nil"
    refine c_tupK _ rfl (Nat.le_of_ble_eq_true rfl) ?_
    walk_at "~frzD asgK gput:1 nameV:1"
    refine c_gputP (ev := (eT2 eI (eL eS))) keyE_str ss xx.1 (xx.2.1, xx.2.2) (fun found5 => [o0, o1, .own (.dct (found5.map (eP eS (eT2 eI (eL eS))))), o3, o4, .val (eS xx.1), .val (eI xx.2.1), .val ((eL eS) xx.2.2), .no, .no, .no, .no, .no, .no, .no]) rfl (fun _ => rfl) fun found5 => ?_
    refine c_aftN (e2 := [o0, o1, .own (.dct (found5.map (eP eS (eT2 eI (eL eS))))), o3, o4, .val (eS xx.1), .val (eI xx.2.1), .val ((eL eS) xx.2.2), .no, .no, .no, .no, .no, .no, .no]) rfl ?_
    exact rfl
  · refine c_aft ?_
    walk_at "~skip"
    refine c_aftN (e2 := [o0, o1, .own (.dct (ss.map (eP eS (eT2 eI (eL eS))))), o3, o4, .val (eS xx.1), .val (eI xx.2.1), .val ((eL eS) xx.2.2), .no, .no, .no, .no, .no, .no, .no]) rfl ?_
    exact rfl
  refine c_aftN (e2 := [o0, o1, .own (.dct (z4.map (eP eS (eT2 eI (eL eS))))), o3, o4, .no, .no, .no, .no, .no, .no, .no, .no, .no, .no]) rfl ?_
  exact rfl)
def m_w_rows_from_b3 : MS := (mAft [5, 13, 14] (mIfS (mTest (mOp (gDIn false) (mName 13) (mName 3))) (mAft [14] (mSeq (mSet 14 (mFrz (mTup (mCons (mFrz (mOp gAdd (mOp gIx (mOp gDGet (mName 3) (mName 13)) (mC (.int 0))) (mName 6))) (mCons (mFrz (mOp gAdd (mOp gIx (mOp gDGet (mName 3) (mName 13)) (mC (.int 1))) (mLst (mCons (mFrz (mName 9)) mNil)))) mNil)))))
    (mAsg (mMin2 (mCons (mDGet2 (mName 8) (mName 5) (mName 14)) (mCons (mName 14) mNil))) (mgPut 8 (mName 5))))) (mAft [14] mSkip)))
def P_w_rows_from_b4 (last : (List (Str × (Int × (List Str))))) (effort : Int) (name : Str) (xx : (Str × Str)) (ss : (List (Str × (Int × (List Str))))) : Option (List (Str × (Int × (List Str)))) :=
  (if (look last xx.1).isSome = true then
    (look last xx.1).bind fun t9 =>
    (look last xx.1).bind fun t10 =>
    (pCat t10.2 [name]).bind fun t11 =>
    (some ((t9.1 + effort), t11)).bind fun more12 =>
    (pMin2 (eT2 eI (eL eS)) ((look ss xx.2).getD more12) more12).bind fun t13 =>
    (pPut ss xx.2 t13).bind fun onward14 =>
    some onward14
  else
    some ss).bind fun z8 =>
  some z8
theorem s_w_rows_from_b4 (o0 : Slot) (o1 : Slot) (o2 : Slot) (last : (List (Str × (Int × (List Str))))) (o4 : Slot) (effort : Int) (name : Str) (o10 : Slot) (o11 : Slot) (o12 : Slot) (xx : (Str × Str)) (ss : (List (Str × (Int × (List Str))))) : ((mgTup (mgCons (mgName 13) (mgCons (mgName 5) mgNil))) ((eT2 eS eS) xx) [o0, o1, o2, .val ((eM eS (eT2 eI (eL eS))) last), o4, .no, .val (eI effort), .no, .own (.dct (ss.map (eP eS (eT2 eI (eL eS))))), .val (eS name), o10, o11, o12, .no, .no]).bind m_w_rows_from_b3 = (P_w_rows_from_b4 last effort name xx ss).map (outN (fun ss : (List (Str × (Int × (List Str)))) => [o0, o1, o2, .val ((eM eS (eT2 eI (eL eS))) last), o4, .no, .val (eI effort), .no, .own (.dct (ss.map (eP eS (eT2 eI (eL eS))))), .val (eS name), o10, o11, o12, .no, .no])) := c_body (by
  unfold P_w_rows_from_b4 m_w_rows_from_b3
  walk_at "~gtup gcons"
  refine c_gname (e2 := [o0, o1, o2, .val ((eM eS (eT2 eI (eL eS))) last), o4, .no, .val (eI effort), .no, .own (.dct (ss.map (eP eS (eT2 eI (eL eS))))), .val (eS name), o10, o11, o12, .val (eS xx.1), .no]) rfl ?_
  walk_at "~gcons"
  refine c_gname (e2 := [o0, o1, o2, .val ((eM eS (eT2 eI (eL eS))) last), o4, .val (eS xx.2), .val (eI effort), .no, .own (.dct (ss.map (eP eS (eT2 eI (eL eS))))), .val (eS name), o10, o11, o12, .val (eS xx.1), .no]) rfl ?_
  walk_at "~gnil aft ifS test op nameV:1 nameV:1 opK:2"
  refine c_pur (x_din0 keyE_str) ?_
  walk_at "~testK"
  refine c_ifJ (fun z8 : (List (Str × (Int × (List Str)))) => (.nx, [o0, o1, o2, .val ((eM eS (eT2 eI (eL eS))) last), o4, .val (eS xx.2), .val (eI effort), .no, .own (.dct (z8.map (eP eS (eT2 eI (eL eS))))), .val (eS name), o10, o11, o12, .val (eS xx.1), .no])) ?_ ?_ fun z8 => ?_
  · refine c_aft ?_
    walk_at "~seq set frz tup cons frz op op op nameV:1 nameV:1 opK:2"
    refine c_cal (x_dget (ev := (eT2 eI (eL eS))) (l := last) keyE_str) fun t9 => ?_
    walk_at "~c opK:2"
    refine c_pur (x_ixT rfl) ?_
    walk_at "~nameV:1 opK:2"
    refine c_pur x_add ?_
    walk_at "~frzD cons frz op op op nameV:1 nameV:1 opK:2"
    refine c_cal (x_dget (ev := (eT2 eI (eL eS))) (l := last) keyE_str) fun t10 => ?_
    walk_at "~c opK:2"
    refine c_pur (x_ixT rfl) ?_
    walk_at "~lst cons frz nameV:1 frzD nil"
    refine c_lstK ([name].map eS) rfl (Nat.le_of_ble_eq_true rfl) ?_
    walk_at "~opK:2"
    refine c_cal (x_cat (e := eS)) fun t11 => ?_
    walk_at "~frzN nil"
    refine c_tupK _ rfl (Nat.le_of_ble_eq_true rfl) ?_
    walk_at "~frzD"
    refine c_setDL (τ := (Int × (List Str))) (eT2 eI (eL eS)) ((t9.1 + effort), t11) (fun more12 => [o0, o1, o2, .val ((eM eS (eT2 eI (eL eS))) last), o4, .val (eS xx.2), .val (eI effort), .no, .own (.dct (ss.map (eP eS (eT2 eI (eL eS))))), .val (eS name), o10, o11, o12, .val (eS xx.1), .val ((eT2 eI (eL eS)) more12)]) (fun _ => rfl) fun more12 => ?_
    walk_at "~seqN asg min2 cons dget2 nameO:1 dget2A:1 nameV:1 frz nameV:1 frzD dget2K:2"
    refine c_pur (x_get2 (ev := (eT2 eI (eL eS))) (l := ss) (k := xx.2) (x := more12) keyE_str) ?_
    walk_at "~cons nameV:1 nil"
    refine c_min2K (ea := (eT2 eI (eL eS))) (a := ((look ss xx.2).getD more12)) (b := more12) rfl fun t13 => ?_
    walk_at "~frzD asgK gput:1 nameV:1"
    refine c_gputP (ev := (eT2 eI (eL eS))) keyE_str ss xx.2 t13 (fun onward14 => [o0, o1, o2, .val ((eM eS (eT2 eI (eL eS))) last), o4, .val (eS xx.2), .val (eI effort), .no, .own (.dct (onward14.map (eP eS (eT2 eI (eL eS))))), .val (eS name), o10, o11, o12, .val (eS xx.1), .val ((eT2 eI (eL eS)) more12)]) rfl (fun _ => rfl) fun onward14 => ?_
    refine c_aftN (e2 := [o0, o1, o2, .val ((eM eS (eT2 eI (eL eS))) last), o4, .val (eS xx.2), .val (eI effort), .no, .own (.dct (onward14.map (eP eS (eT2 eI (eL eS))))), .val (eS name), o10, o11, o12, .val (eS xx.1), .no]) rfl ?_
    exact rfl
  · refine c_aft ?_
    walk_at "~skip"
    refine c_aftN (e2 := [o0, o1, o2, .val ((eM eS (eT2 eI (eL eS))) last), o4, .val (eS xx.2), .val (eI effort), .no, .own (.dct (ss.map (eP eS (eT2 eI (eL eS))))), .val (eS name), o10, o11, o12, .val (eS xx.1), .no]) rfl ?_
    exact rfl
  refine c_aftN (e2 := [o0, o1, o2, .val ((eM eS (eT2 eI (eL eS))) last), o4, .no, .val (eI effort), .no, .own (.dct (z8.map (eP eS (eT2 eI (eL eS))))), .val (eS name), o10, o11, o12, .no, .no]) rfl ?_
  exact rfl)
def m_w_rows_from_b5 : MS := (mAft [5, 6, 9, 10, 11, 12, 13, 14] (mBef [5, 13, 14] (mFor (mItT (mTup (mCons (mFrz (mTup (mCons (mFrz (mName 10)) (mCons (mFrz (mName 11)) mNil)))) (mCons (mFrz (mTup (mCons (mFrz (mName 11)) (mCons (mFrz (mName 10)) mNil)))) mNil)))) (mgTup (mgCons (mgName 13) (mgCons (mgName 5) mgNil))) m_w_rows_from_b3)))
def P_w_rows_from_b6 (last : (List (Str × (Int × (List Str))))) (xx : (Str × Str × Str × Str × Int)) (ss : (List (Str × (Int × (List Str))))) : Option (List (Str × (Int × (List Str)))) :=
  (forP (P_w_rows_from_b4 last xx.2.2.2.2 xx.1) [((xx.2.1, xx.2.2.1), (xx.2.2.1, xx.2.1)).1, ((xx.2.1, xx.2.2.1), (xx.2.2.1, xx.2.1)).2] ss).bind fun s15 =>
  some s15
theorem s_w_rows_from_b6 (o0 : Slot) (o1 : Slot) (o2 : Slot) (last : (List (Str × (Int × (List Str))))) (o4 : Slot) (xx : (Str × Str × Str × Str × Int)) (ss : (List (Str × (Int × (List Str))))) : ((mgTup (mgCons (mgName 9) (mgCons (mgName 10) (mgCons (mgName 11) (mgCons (mgName 12) (mgCons (mgName 6) mgNil)))))) ((eT5 eS eS eS eS eI) xx) [o0, o1, o2, .val ((eM eS (eT2 eI (eL eS))) last), o4, .no, .no, .no, .own (.dct (ss.map (eP eS (eT2 eI (eL eS))))), .no, .no, .no, .no, .no, .no]).bind m_w_rows_from_b5 = (P_w_rows_from_b6 last xx ss).map (outN (fun ss : (List (Str × (Int × (List Str)))) => [o0, o1, o2, .val ((eM eS (eT2 eI (eL eS))) last), o4, .no, .no, .no, .own (.dct (ss.map (eP eS (eT2 eI (eL eS))))), .no, .no, .no, .no, .no, .no])) := c_body (by
  unfold P_w_rows_from_b6 m_w_rows_from_b5
  walk_at "~gtup gcons"
  refine c_gname (e2 := [o0, o1, o2, .val ((eM eS (eT2 eI (eL eS))) last), o4, .no, .no, .no, .own (.dct (ss.map (eP eS (eT2 eI (eL eS))))), .val (eS xx.1), .no, .no, .no, .no, .no]) rfl ?_
  walk_at "~gcons"
  refine c_gname (e2 := [o0, o1, o2, .val ((eM eS (eT2 eI (eL eS))) last), o4, .no, .no, .no, .own (.dct (ss.map (eP eS (eT2 eI (eL eS))))), .val (eS xx.1), .val (eS xx.2.1), .no, .no, .no, .no]) rfl ?_
  walk_at "~gcons"
  refine c_gname (e2 := [o0, o1, o2, .val ((eM eS (eT2 eI (eL eS))) last), o4, .no, .no, .no, .own (.dct (ss.map (eP eS (eT2 eI (eL eS))))), .val (eS xx.1), .val (eS xx.2.1), .val (eS xx.2.2.1), .no, .no, .no]) rfl ?_
  walk_at "~gcons"
  refine c_gname (e2 := [o0, o1, o2, .val ((eM eS (eT2 eI (eL eS))) last), o4, .no, .no, .no, .own (.dct (ss.map (eP eS (eT2 eI (eL eS))))), .val (eS xx.1), .val (eS xx.2.1), .val (eS xx.2.2.1), .val (eS xx.2.2.2.1), .no, .no]) rfl ?_
  walk_at "~gcons"
  refine c_gname (e2 := [o0, o1, o2, .val ((eM eS (eT2 eI (eL eS))) last), o4, .no, .val (eI xx.2.2.2.2), .no, .own (.dct (ss.map (eP eS (eT2 eI (eL eS))))), .val (eS xx.1), .val (eS xx.2.1), .val (eS xx.2.2.1), .val (eS xx.2.2.2.1), .no, .no]) rfl ?_
  walk_at "~gnil aft"
  refine c_bef (e2 := [o0, o1, o2, .val ((eM eS (eT2 eI (eL eS))) last), o4, .no, .val (eI xx.2.2.2.2), .no, .own (.dct (ss.map (eP eS (eT2 eI (eL eS))))), .val (eS xx.1), .val (eS xx.2.1), .val (eS xx.2.2.1), .val (eS xx.2.2.2.1), .no, .no]) rfl ?_
  walk_at "~for itT tup cons frz tup cons frz nameV:1 frzD cons frz nameV:1 frzD nil"
  refine c_tupK _ rfl (Nat.le_of_ble_eq_true rfl) ?_
  walk_at "~frzD cons frz tup cons frz nameV:1 frzD cons frz nameV:1 frzD nil"
  refine c_tupK _ rfl (Nat.le_of_ble_eq_true rfl) ?_
  walk_at "~frzD nil"
  refine c_tupK _ rfl (Nat.le_of_ble_eq_true rfl) ?_
  walk_at "~frzD itTK"
  refine c_loop (E := fun sE : (List (Str × (Int × (List Str)))) => [o0, o1, o2, .val ((eM eS (eT2 eI (eL eS))) last), o4, .no, .val (eI xx.2.2.2.2), .no, .own (.dct (sE.map (eP eS (eT2 eI (eL eS))))), .val (eS xx.1), .val (eS xx.2.1), .val (eS xx.2.2.1), .val (eS xx.2.2.2.1), .no, .no]) (forL_P (E := fun sE : (List (Str × (Int × (List Str)))) => [o0, o1, o2, .val ((eM eS (eT2 eI (eL eS))) last), o4, .no, .val (eI xx.2.2.2.2), .no, .own (.dct (sE.map (eP eS (eT2 eI (eL eS))))), .val (eS xx.1), .val (eS xx.2.1), .val (eS xx.2.2.1), .val (eS xx.2.2.2.1), .no, .no]) (ec := (eT2 eS eS)) (s_w_rows_from_b4 (o0) (o1) (o2) last (o4) xx.2.2.2.2 xx.1 (.val (eS xx.2.1)) (.val (eS xx.2.2.1)) (.val (eS xx.2.2.2.1))) [((xx.2.1, xx.2.2.1), (xx.2.2.1, xx.2.1)).1, ((xx.2.1, xx.2.2.1), (xx.2.2.1, xx.2.1)).2] ss) fun s15 => ?_
  refine c_aftN (e2 := [o0, o1, o2, .val ((eM eS (eT2 eI (eL eS))) last), o4, .no, .no, .no, .own (.dct (s15.map (eP eS (eT2 eI (eL eS))))), .no, .no, .no, .no, .no, .no]) rfl ?_
  exact rfl)
def m_w_rows_from_b7 : MS := (mAft [4, 5, 6, 7, 8, 9, 10, 11, 12, 13, 14] (mSeq (mBef [5, 6, 7] (mFor (mItI (mName 3)) (mgTup (mgCons (mgName 5) (mgCons (mgTup (mgCons (mgName 6) (mgCons (mgName 7) mgNil))) mgNil))) m_w_rows_from_b1))
    (mSeq (mSet 8 mDNew)
    (mSeq (mBef [5, 6, 9, 10, 11, 12, 13, 14] (mFor (mItL (mName 0)) (mgTup (mgCons (mgName 9) (mgCons (mgName 10) (mgCons (mgName 11) (mgCons (mgName 12) (mgCons (mgName 6) mgNil)))))) m_w_rows_from_b5))
    (mSet 3 (mTake 8))))))
def P_w_rows_from_b8 (ways : (List (Str × Str × Str × Str × Int))) (xx : Int) (ss : ((List (Str × (Int × (List Str)))) × (List (Str × (Int × (List Str)))))) : Option ((List (Str × (Int × (List Str)))) × (List (Str × (Int × (List Str))))) :=
  (forP (P_w_rows_from_b2 ) ss.2 ss.1).bind fun s6 =>
  (some ([] : (List (Str × (Int × (List Str)))))).bind fun onward7 =>
  (forP (P_w_rows_from_b6 ss.2) ways onward7).bind fun s16 =>
  some (s6, s16)
theorem s_w_rows_from_b8 (ways : (List (Str × Str × Str × Str × Int))) (o1 : Slot) (xx : Int) (ss : ((List (Str × (Int × (List Str)))) × (List (Str × (Int × (List Str)))))) : ((mgName 4) (eI xx) [.val ((eL (eT5 eS eS eS eS eI)) ways), o1, .own (.dct (ss.1.map (eP eS (eT2 eI (eL eS))))), .own (.dct (ss.2.map (eP eS (eT2 eI (eL eS))))), .no, .no, .no, .no, .no, .no, .no, .no, .no, .no, .no]).bind m_w_rows_from_b7 = (P_w_rows_from_b8 ways xx ss).map (outN (fun ss : ((List (Str × (Int × (List Str)))) × (List (Str × (Int × (List Str))))) => [.val ((eL (eT5 eS eS eS eS eI)) ways), o1, .own (.dct (ss.1.map (eP eS (eT2 eI (eL eS))))), .own (.dct (ss.2.map (eP eS (eT2 eI (eL eS))))), .no, .no, .no, .no, .no, .no, .no, .no, .no, .no, .no])) := c_body (by
  unfold P_w_rows_from_b8 m_w_rows_from_b7
  refine c_gname (e2 := [.val ((eL (eT5 eS eS eS eS eI)) ways), o1, .own (.dct (ss.1.map (eP eS (eT2 eI (eL eS))))), .own (.dct (ss.2.map (eP eS (eT2 eI (eL eS))))), .val (eI xx), .no, .no, .no, .no, .no, .no, .no, .no, .no, .no]) rfl ?_
  walk_at "~aft seq"
  refine c_bef (e2 := [.val ((eL (eT5 eS eS eS eS eI)) ways), o1, .own (.dct (ss.1.map (eP eS (eT2 eI (eL eS))))), .own (.dct (ss.2.map (eP eS (eT2 eI (eL eS))))), .val (eI xx), .no, .no, .no, .no, .no, .no, .no, .no, .no, .no]) rfl ?_
  walk_at "~for itI nameO:1"
  refine c_lkO (l := ss.2.map (eT2 eS (eT2 eI (eL eS)))) rfl (e2 := [.val ((eL (eT5 eS eS eS eS eI)) ways), o1, .own (.dct (ss.1.map (eP eS (eT2 eI (eL eS))))), .val ((eM eS (eT2 eI (eL eS))) ss.2), .val (eI xx), .no, .no, .no, .no, .no, .no, .no, .no, .no, .no]) rfl mapI ?_
  refine c_loop (E := fun sE : (List (Str × (Int × (List Str)))) => [.val ((eL (eT5 eS eS eS eS eI)) ways), o1, .own (.dct (sE.map (eP eS (eT2 eI (eL eS))))), .val ((eM eS (eT2 eI (eL eS))) ss.2), .val (eI xx), .no, .no, .no, .no, .no, .no, .no, .no, .no, .no]) (forL_P (E := fun sE : (List (Str × (Int × (List Str)))) => [.val ((eL (eT5 eS eS eS eS eI)) ways), o1, .own (.dct (sE.map (eP eS (eT2 eI (eL eS))))), .val ((eM eS (eT2 eI (eL eS))) ss.2), .val (eI xx), .no, .no, .no, .no, .no, .no, .no, .no, .no, .no]) (ec := (eT2 eS (eT2 eI (eL eS)))) (s_w_rows_from_b2 (.val ((eL (eT5 eS eS eS eS eI)) ways)) (o1) (.val ((eM eS (eT2 eI (eL eS))) ss.2)) (.val (eI xx))) _ ss.1) fun s6 => ?_
  walk_at "~seqN seq set dnew"
  refine c_setNLD eS (eT2 eI (eL eS)) ([] : (List (Str × (Int × (List Str))))) (fun onward7 => [.val ((eL (eT5 eS eS eS eS eI)) ways), o1, .own (.dct (s6.map (eP eS (eT2 eI (eL eS))))), .val ((eM eS (eT2 eI (eL eS))) ss.2), .val (eI xx), .no, .no, .no, .own (.dct (onward7.map (eP eS (eT2 eI (eL eS))))), .no, .no, .no, .no, .no, .no]) (fun _ => rfl) fun onward7 => ?_
  walk_at "~seqN seq"
  refine c_bef (e2 := [.val ((eL (eT5 eS eS eS eS eI)) ways), o1, .own (.dct (s6.map (eP eS (eT2 eI (eL eS))))), .val ((eM eS (eT2 eI (eL eS))) ss.2), .val (eI xx), .no, .no, .no, .own (.dct (onward7.map (eP eS (eT2 eI (eL eS))))), .no, .no, .no, .no, .no, .no]) rfl ?_
  walk_at "~for itL nameV:1 frzD itLK"
  refine c_loop (E := fun sE : (List (Str × (Int × (List Str)))) => [.val ((eL (eT5 eS eS eS eS eI)) ways), o1, .own (.dct (s6.map (eP eS (eT2 eI (eL eS))))), .val ((eM eS (eT2 eI (eL eS))) ss.2), .val (eI xx), .no, .no, .no, .own (.dct (sE.map (eP eS (eT2 eI (eL eS))))), .no, .no, .no, .no, .no, .no]) (forL_P (E := fun sE : (List (Str × (Int × (List Str)))) => [.val ((eL (eT5 eS eS eS eS eI)) ways), o1, .own (.dct (s6.map (eP eS (eT2 eI (eL eS))))), .val ((eM eS (eT2 eI (eL eS))) ss.2), .val (eI xx), .no, .no, .no, .own (.dct (sE.map (eP eS (eT2 eI (eL eS))))), .no, .no, .no, .no, .no, .no]) (ec := (eT5 eS eS eS eS eI)) (s_w_rows_from_b6 (.val ((eL (eT5 eS eS eS eS eI)) ways)) (o1) (.own (.dct (s6.map (eP eS (eT2 eI (eL eS)))))) ss.2 (.val (eI xx))) _ onward7) fun s16 => ?_
  walk_at "~seqN set"
  refine c_take rfl (e2 := [.val ((eL (eT5 eS eS eS eS eI)) ways), o1, .own (.dct (s6.map (eP eS (eT2 eI (eL eS))))), .val ((eM eS (eT2 eI (eL eS))) ss.2), .val (eI xx), .no, .no, .no, .no, .no, .no, .no, .no, .no, .no]) rfl ?_
  refine c_setN (e2 := [.val ((eL (eT5 eS eS eS eS eI)) ways), o1, .own (.dct (s6.map (eP eS (eT2 eI (eL eS))))), .own (.dct (s16.map (eP eS (eT2 eI (eL eS))))), .val (eI xx), .no, .no, .no, .no, .no, .no, .no, .no, .no, .no]) rfl ?_
  refine c_aftN (e2 := [.val ((eL (eT5 eS eS eS eS eI)) ways), o1, .own (.dct (s6.map (eP eS (eT2 eI (eL eS))))), .own (.dct (s16.map (eP eS (eT2 eI (eL eS))))), .no, .no, .no, .no, .no, .no, .no, .no, .no, .no, .no]) rfl ?_
  exact rfl)
def m_w_rows_from : MS := (mSeq (mPutU [2, 3] (mConsU mDNew (mConsU (mDisp [((mName 1), (mTup (mCons (mFrz (mC (.int 0))) (mCons (mFrz (mLst mNil)) mNil))))]) mNil)))
    (mSeq (mBef [4, 5, 6, 7, 8, 9, 10, 11, 12, 13, 14] (mFor (mRange1 (mCons (mOp gAdd (mCB gLen (mCons (mName 0) mNil)) (mC (.int 1))) mNil)) (mgName 4) m_w_rows_from_b7))
    (mRetW [0, 1, 2, 3, 4, 5, 6, 7, 8, 9, 10, 11, 12, 13, 14] (mName 2))))
def fm_w_rows_from : FM := fmOf 2 15 m_w_rows_from
theorem ok_w_rows_from (T : Tx w K mg fd) : FnOk P w K mg base CX0 1 (He.ga K "_law_rows_from") (fd 7) ["_law_ways_here", "_law_camp"] (spF K fm_w_rows_from) :=
  fn_ok T.F_w_rows_from sc_w_rows_from fun cdv A outer s H E hr => (show VSs _ _ m_w_rows_from from (vs_cons (vs_par (i := 2) (j := 3) sc_w_rows_from.nd (vau_cons ve_dnew (vau_cons (ve_disp (.cons (ve_name 1) (ve_tup (va_cons (ve_frz ve_int) (va_cons (ve_frz (ve_lst va_nil)) va_nil))) .nil)) vau_nil)))
      (vs_cons (vs_bef (ws := [4, 5, 6, 7, 8, 9, 10, 11, 12, 13, 14]) (vs_for PassesOwn.never (vi_range1 T.b_range (va_cons (ve_op or_add od_add (ve_callB call_len cd_len (by rfl) T.b_len PySem.boot_len (va_cons (ve_name 0) va_nil)) ve_int) va_nil)) (vg_name (j := 4) sc_w_rows_from.nd) (vs_aft (ws := [4, 5, 6, 7, 8, 9, 10, 11, 12, 13, 14]) (vs_cons (vs_bef (ws := [5, 6, 7]) (vs_for PassesOwn.never (vi_items (ve_name 3)) (vg_tup (vgs_cons (vg_name (j := 5) sc_w_rows_from.nd) (vgs_cons (vg_tup (vgs_cons (vg_name (j := 6) sc_w_rows_from.nd) (vgs_cons (vg_name (j := 7) sc_w_rows_from.nd) vgs_nil)) (mgcons_len (mgcons_len mgnil_len))) vgs_nil)) (mgcons_len (mgcons_len mgnil_len))) (vs_aft (ws := [5, 6, 7]) (vs_one (vs_if (vt_w (vw_or (vt_cmp (op_dnin hr.units) (od_din (neg := true)) (ve_name 5) (ve_name 2) (by rfl)) (vw_or1 (vt_cmp op_lt (od_cmp (p := fun i j => decide (i < j))) (ve_name 6) (ve_ix ix_seq od_ix (ve_dget hr.units (ve_name 2) (ve_name 5) (fun _ _ => rfl)) ve_int (fun _ _ => rfl)) (nomark _))))) (vs_aft (ws := []) (vs_one (vs_asg (ve_tup (va_cons (ve_frz (ve_name 6)) (va_cons (ve_frz (ve_name 7)) va_nil))) (vg_put (i := 2) hr.units (ve_name 5))))) (vs_aft (ws := []) vs_nil))))))
      (vs_cons (vs_set (i := 8) sc_w_rows_from.nd ve_dnew)
      (vs_cons (vs_bef (ws := [5, 6, 9, 10, 11, 12, 13, 14]) (vs_for PassesOwn.never (vi_list (ve_name 0)) (vg_tup (vgs_cons (vg_name (j := 9) sc_w_rows_from.nd) (vgs_cons (vg_name (j := 10) sc_w_rows_from.nd) (vgs_cons (vg_name (j := 11) sc_w_rows_from.nd) (vgs_cons (vg_name (j := 12) sc_w_rows_from.nd) (vgs_cons (vg_name (j := 6) sc_w_rows_from.nd) vgs_nil))))) (mgcons_len (mgcons_len (mgcons_len (mgcons_len (mgcons_len mgnil_len)))))) (vs_aft (ws := [5, 6, 9, 10, 11, 12, 13, 14]) (vs_one (vs_bef (ws := [5, 13, 14]) (vs_for PassesOwn.never (vi_tup (ve_tup (va_cons (ve_frz (ve_tup (va_cons (ve_frz (ve_name 10)) (va_cons (ve_frz (ve_name 11)) va_nil)))) (va_cons (ve_frz (ve_tup (va_cons (ve_frz (ve_name 11)) (va_cons (ve_frz (ve_name 10)) va_nil)))) va_nil)))) (vg_tup (vgs_cons (vg_name (j := 13) sc_w_rows_from.nd) (vgs_cons (vg_name (j := 5) sc_w_rows_from.nd) vgs_nil)) (mgcons_len (mgcons_len mgnil_len))) (vs_aft (ws := [5, 13, 14]) (vs_one (vs_if (vt_cmp (op_din hr.units) (od_din (neg := false)) (ve_name 13) (ve_name 3) (by rfl)) (vs_aft (ws := [14]) (vs_cons (vs_set (i := 14) sc_w_rows_from.nd (ve_frz (ve_tup (va_cons (ve_frz (ve_op or_add od_add (ve_ix ix_seq od_ix (ve_dget hr.units (ve_name 3) (ve_name 13) (fun _ _ => rfl)) ve_int (fun _ _ => rfl)) (ve_name 6))) (va_cons (ve_frz (ve_op or_add od_add (ve_ix ix_seq od_ix (ve_dget hr.units (ve_name 3) (ve_name 13) (fun _ _ => rfl)) ve_int (fun _ _ => rfl)) (ve_lst (va_cons (ve_frz (ve_name 9)) va_nil)))) va_nil)))))
      (vs_one (vs_asg (ve_min2 rfl hr.units (by rfl) T.b_min (by decide +kernel) (va_cons (ve_dget2 hr.units (ve_name 8) (ve_name 5) (ve_name 14)) (va_cons (ve_name 14) va_nil))) (vg_put (i := 8) hr.units (ve_name 5)))))) (vs_aft (ws := [14]) vs_nil))))))))))
      (vs_one (vs_set (i := 3) sc_w_rows_from.nd (ve_take 8)))))))))
      (vs_one (vs_retW (ve_name 2))))))
def P_w_rows_from (ways : (List (Str × Str × Str × Str × Int))) (camp : Str) : Option (List (Str × (Int × (List Str)))) :=
  (pRng ((ways.length : Int) + 1)).bind fun l1 =>
  (forP (P_w_rows_from_b8 ways) l1 (([] : (List (Str × (Int × (List Str))))), (mergeL [] [(camp, (0, ([] : List Str)))]))).bind fun s17 =>
  some s17.1
theorem q_w_rows_from (ways : (List (Str × Str × Str × Str × Int))) (camp : Str) : fm_w_rows_from [.val ((eL (eT5 eS eS eS eS eI)) ways), .val (eS camp)] = (P_w_rows_from ways camp).map fun z => (.new (.dct (z.map (eP eS (eT2 eI (eL eS))))), [.no, .no]) := by
  unfold fm_w_rows_from m_w_rows_from P_w_rows_from
  refine c_fm (oR := fun z : (List (Str × (Int × (List Str)))) => .new (.dct (z.map (eP eS (eT2 eI (eL eS)))))) (eR := fun z => [.no, .no, .no, .no, .no, .no, .no, .no, .no, .no, .no, .no, .no, .no, .no]) [.val ((eL (eT5 eS eS eS eS eI)) ways), .val (eS camp), .no, .no, .no, .no, .no, .no, .no, .no, .no, .no, .no, .no, .no] rfl rfl ?_ (fun _ => rfl) (fun _ => by walk_at "ik") (fun _ => rfl)
  walk_at "~seq putU consU dnew frzSN consU disp pcons frz nameV:1 frzD frz tup cons frz c frzD cons frz lst nil"
  refine c_lstK (([] : List Str).map eS) rfl (Nat.le_of_ble_eq_true rfl) ?_
  walk_at "~frzN nil"
  refine c_tupK _ rfl (Nat.le_of_ble_eq_true rfl) ?_
  walk_at "~frzD pconsK pnil"
  refine c_dispK (ek := eS) (ev := (eT2 eI (eL eS))) keyE_str [(camp, (0, ([] : List Str)))] rfl (Nat.le_of_ble_eq_true rfl) ?_
  walk_at "~frzSN nil"
  refine c_putUK [.val ((eL (eT5 eS eS eS eS eI)) ways), .val (eS camp), .own (.dct (([] : (List (Str × (Int × (List Str))))).map (eP eS (eT2 eI (eL eS))))), .own (.dct ((mergeL [] [(camp, (0, ([] : List Str)))]).map (eP eS (eT2 eI (eL eS))))), .no, .no, .no, .no, .no, .no, .no, .no, .no, .no, .no] rfl ?_
  walk_at "~seqN seq"
  refine c_bef (e2 := [.val ((eL (eT5 eS eS eS eS eI)) ways), .val (eS camp), .own (.dct (([] : (List (Str × (Int × (List Str))))).map (eP eS (eT2 eI (eL eS))))), .own (.dct ((mergeL [] [(camp, (0, ([] : List Str)))]).map (eP eS (eT2 eI (eL eS))))), .no, .no, .no, .no, .no, .no, .no, .no, .no, .no, .no]) rfl ?_
  walk_at "~for rng cons op cb cons nameV:1 nil"
  refine c_cbK _ rfl ?_
  refine c_pur (x_lenL (e := (eT5 eS eS eS eS eI)) (l := ways)) ?_
  walk_at "~c opK:2"
  refine c_pur x_add ?_
  walk_at "~nil"
  refine c_rngK rfl fun l1 => ?_
  refine c_loop (E := fun sE : ((List (Str × (Int × (List Str)))) × (List (Str × (Int × (List Str))))) => [.val ((eL (eT5 eS eS eS eS eI)) ways), .val (eS camp), .own (.dct (sE.1.map (eP eS (eT2 eI (eL eS))))), .own (.dct (sE.2.map (eP eS (eT2 eI (eL eS))))), .no, .no, .no, .no, .no, .no, .no, .no, .no, .no, .no]) (forL_P (E := fun sE : ((List (Str × (Int × (List Str)))) × (List (Str × (Int × (List Str))))) => [.val ((eL (eT5 eS eS eS eS eI)) ways), .val (eS camp), .own (.dct (sE.1.map (eP eS (eT2 eI (eL eS))))), .own (.dct (sE.2.map (eP eS (eT2 eI (eL eS))))), .no, .no, .no, .no, .no, .no, .no, .no, .no, .no, .no]) (ec := eI) (s_w_rows_from_b8 ways (.val (eS camp))) _ (([] : (List (Str × (Int × (List Str))))), (mergeL [] [(camp, (0, ([] : List Str)))]))) fun s17 => ?_
  walk_at "~seqN ret nameO:1"
  refine c_retK (.new (.dct (s17.1.map (eP eS (eT2 eI (eL eS)))))) rfl (e2 := [.no, .no, .no, .no, .no, .no, .no, .no, .no, .no, .no, .no, .no, .no, .no]) (by simp only [Cm.wipeS, List.set_cons_succ, List.set_cons_zero]) ?_
  exact rfl
def m_both_ends : MS := (mRetW [0] (mTup (mCons (mFrz (mTup (mCons (mFrz (mOp gIx (mName 0) (mC (.int 1)))) (mCons (mFrz (mOp gIx (mName 0) (mC (.int 2)))) mNil)))) (mCons (mFrz (mTup (mCons (mFrz (mOp gIx (mName 0) (mC (.int 2)))) (mCons (mFrz (mOp gIx (mName 0) (mC (.int 1)))) mNil)))) mNil))))
def fm_both_ends : FM := fmOf 1 1 m_both_ends
theorem ok_both_ends (T : Tx w K mg fd) : FnOk P w K mg base CX0 1 (He.ga K "both_ends") (fd 8) ["row"] (spF K fm_both_ends) :=
  fn_ok T.F_both_ends sc_both_ends fun cdv A outer s H E hr => (show VSs _ _ m_both_ends from (vs_one (vs_retW (ve_tup (va_cons (ve_frz (ve_tup (va_cons (ve_frz (ve_ix ix_seq od_ix (ve_name 0) ve_int (fun _ _ => rfl))) (va_cons (ve_frz (ve_ix ix_seq od_ix (ve_name 0) ve_int (fun _ _ => rfl))) va_nil)))) (va_cons (ve_frz (ve_tup (va_cons (ve_frz (ve_ix ix_seq od_ix (ve_name 0) ve_int (fun _ _ => rfl))) (va_cons (ve_frz (ve_ix ix_seq od_ix (ve_name 0) ve_int (fun _ _ => rfl))) va_nil)))) va_nil))))))
def P_both_ends (row : (Str × Str × Str × Str × Int)) : Option ((Str × Str) × (Str × Str)) :=
  some ((row.2.1, row.2.2.1), (row.2.2.1, row.2.1))
theorem q_both_ends (row : (Str × Str × Str × Str × Int)) : fm_both_ends [.val ((eT5 eS eS eS eS eI) row)] = (P_both_ends row).map fun z => (.dat ((eT2 (eT2 eS eS) (eT2 eS eS)) z), [.no]) := by
  unfold fm_both_ends m_both_ends P_both_ends
  refine c_fm (oR := fun z : ((Str × Str) × (Str × Str)) => .dat ((eT2 (eT2 eS eS) (eT2 eS eS)) z)) (eR := fun z => [.no]) [.val ((eT5 eS eS eS eS eI) row)] rfl rfl ?_ (fun _ => rfl) (fun _ => by walk_at "ik") (fun _ => rfl)
  walk_at "~ret tup cons frz tup cons frz op nameV:1 c opK:2"
  refine c_pur (x_ixT rfl) ?_
  walk_at "~frzD cons frz op nameV:1 c opK:2"
  refine c_pur (x_ixT rfl) ?_
  walk_at "~frzD nil"
  refine c_tupK _ rfl (Nat.le_of_ble_eq_true rfl) ?_
  walk_at "~frzD cons frz tup cons frz op nameV:1 c opK:2"
  refine c_pur (x_ixT rfl) ?_
  walk_at "~frzD cons frz op nameV:1 c opK:2"
  refine c_pur (x_ixT rfl) ?_
  walk_at "~frzD nil"
  refine c_tupK _ rfl (Nat.le_of_ble_eq_true rfl) ?_
  walk_at "~frzD nil"
  refine c_tupK _ rfl (Nat.le_of_ble_eq_true rfl) ?_
  refine c_retK (.dat ((eT2 (eT2 eS eS) (eT2 eS eS)) ((row.2.1, row.2.2.1), (row.2.2.1, row.2.1)))) rfl (e2 := [.no]) rfl ?_
  exact rfl
def m_heights_of_b1 : MS := (mAft [5, 6] (mIfS (mAnd (mTest (mOp (gDIn false) (mName 5) (mName 2))) (mOr (mTest (mOp (gDIn true) (mName 6) (mName 2))) (mTest (mOp (gCmp fun i j => decide (i < j)) (mOp gAdd (mOp gDGet (mName 2) (mName 5)) (mOp gIx (mName 4) (mC (.int 4)))) (mOp gDGet (mName 2) (mName 6)))))) (mAft [] (mAsg (mOp gAdd (mOp gDGet (mName 2) (mName 5)) (mOp gIx (mName 4) (mC (.int 4)))) (mgPut 2 (mName 6)))) (mAft [] mSkip)))
def P_heights_of_b2 (row : (Str × Str × Str × Str × Int)) (xx : (Str × Str)) (ss : (List (Str × Int))) : Option (List (Str × Int)) :=
  (if (look ss xx.1).isSome = true then
    (if (!(look ss xx.2).isSome) = true then
      some true
    else
      (look ss xx.1).bind fun t4 =>
      (look ss xx.2).bind fun t5 =>
      some (decide ((t4 + row.2.2.2.2) < t5))).bind fun z6 =>
    some z6
  else
    some false).bind fun z7 =>
  (if z7 = true then
    (look ss xx.1).bind fun t9 =>
    (pPut ss xx.2 (t9 + row.2.2.2.2)).bind fun found10 =>
    some found10
  else
    some ss).bind fun z8 =>
  some z8
theorem s_heights_of_b2 (o0 : Slot) (o1 : Slot) (o3 : Slot) (row : (Str × Str × Str × Str × Int)) (xx : (Str × Str)) (ss : (List (Str × Int))) : ((mgTup (mgCons (mgName 5) (mgCons (mgName 6) mgNil))) ((eT2 eS eS) xx) [o0, o1, .own (.dct (ss.map (eP eS eI))), o3, .val ((eT5 eS eS eS eS eI) row), .no, .no]).bind m_heights_of_b1 = (P_heights_of_b2 row xx ss).map (outN (fun ss : (List (Str × Int)) => [o0, o1, .own (.dct (ss.map (eP eS eI))), o3, .val ((eT5 eS eS eS eS eI) row), .no, .no])) := c_body (by
  unfold P_heights_of_b2 m_heights_of_b1
  walk_at "~gtup gcons"
  refine c_gname (e2 := [o0, o1, .own (.dct (ss.map (eP eS eI))), o3, .val ((eT5 eS eS eS eS eI) row), .val (eS xx.1), .no]) rfl ?_
  walk_at "~gcons"
  refine c_gname (e2 := [o0, o1, .own (.dct (ss.map (eP eS eI))), o3, .val ((eT5 eS eS eS eS eI) row), .val (eS xx.1), .val (eS xx.2)]) rfl ?_
  walk_at "~gnil aft ifS andB test op nameV:1 nameO:1 opK:2"
  refine c_pur (x_din0 keyE_str) ?_
  walk_at "~testK"
  refine c_ifJ (fun z7 => (z7, [o0, o1, .own (.dct (ss.map (eP eS eI))), o3, .val ((eT5 eS eS eS eS eI) row), .val (eS xx.1), .val (eS xx.2)])) ?_ ?_ fun z7 => ?_
  · refine c_orB ?_
    walk_at "~test op nameV:1 nameO:1 opK:2"
    refine c_pur (x_din1 keyE_str) ?_
    walk_at "~testK"
    refine c_ifJ (fun z6 => (z6, [o0, o1, .own (.dct (ss.map (eP eS eI))), o3, .val ((eT5 eS eS eS eS eI) row), .val (eS xx.1), .val (eS xx.2)])) ?_ ?_ fun z6 => ?_
    · exact rfl
    · refine c_test ?_
      walk_at "~op op op nameO:1 nameV:1 opK:2"
      refine c_cal (x_dget (ev := eI) (l := ss) keyE_str) fun t4 => ?_
      walk_at "~op nameV:1 c opK:2"
      refine c_pur (x_ixT rfl) ?_
      walk_at "~opK:2"
      refine c_pur x_add ?_
      walk_at "~op nameO:1 nameV:1 opK:2"
      refine c_cal (x_dget (ev := eI) (l := ss) keyE_str) fun t5 => ?_
      walk_at "~opK:2"
      refine c_pur x_cmp ?_
      walk_at "~testK"
      exact rfl
    exact rfl
  · exact rfl
  refine c_ifJ (fun z8 : (List (Str × Int)) => (.nx, [o0, o1, .own (.dct (z8.map (eP eS eI))), o3, .val ((eT5 eS eS eS eS eI) row), .val (eS xx.1), .val (eS xx.2)])) ?_ ?_ fun z8 => ?_
  · refine c_aft ?_
    walk_at "~asg op op nameO:1 nameV:1 opK:2"
    refine c_cal (x_dget (ev := eI) (l := ss) keyE_str) fun t9 => ?_
    walk_at "~op nameV:1 c opK:2"
    refine c_pur (x_ixT rfl) ?_
    walk_at "~opK:2"
    refine c_pur x_add ?_
    walk_at "~frzD asgK gput:1 nameV:1"
    refine c_gputP (ev := eI) keyE_str ss xx.2 (t9 + row.2.2.2.2) (fun found10 => [o0, o1, .own (.dct (found10.map (eP eS eI))), o3, .val ((eT5 eS eS eS eS eI) row), .val (eS xx.1), .val (eS xx.2)]) rfl (fun _ => rfl) fun found10 => ?_
    refine c_aftN (e2 := [o0, o1, .own (.dct (found10.map (eP eS eI))), o3, .val ((eT5 eS eS eS eS eI) row), .val (eS xx.1), .val (eS xx.2)]) rfl ?_
    exact rfl
  · refine c_aft ?_
    walk_at "~skip"
    refine c_aftN (e2 := [o0, o1, .own (.dct (ss.map (eP eS eI))), o3, .val ((eT5 eS eS eS eS eI) row), .val (eS xx.1), .val (eS xx.2)]) rfl ?_
    exact rfl
  refine c_aftN (e2 := [o0, o1, .own (.dct (z8.map (eP eS eI))), o3, .val ((eT5 eS eS eS eS eI) row), .no, .no]) rfl ?_
  exact rfl)
def m_heights_of_b3 : MS := (mAft [4, 5, 6] (mBef [5, 6] (mFor (mItT (mCallV fm_both_ends none (mCons (mFrz (mName 4)) mNil))) (mgTup (mgCons (mgName 5) (mgCons (mgName 6) mgNil))) m_heights_of_b1)))
def P_heights_of_b4  (xx : (Str × Str × Str × Str × Int)) (ss : (List (Str × Int))) : Option (List (Str × Int)) :=
  (P_both_ends xx).bind fun r3 =>
  (forP (P_heights_of_b2 xx) [r3.1, r3.2] ss).bind fun s11 =>
  some s11
theorem s_heights_of_b4 (o0 : Slot) (o1 : Slot) (o3 : Slot) (xx : (Str × Str × Str × Str × Int)) (ss : (List (Str × Int))) : ((mgName 4) ((eT5 eS eS eS eS eI) xx) [o0, o1, .own (.dct (ss.map (eP eS eI))), o3, .no, .no, .no]).bind m_heights_of_b3 = (P_heights_of_b4  xx ss).map (outN (fun ss : (List (Str × Int)) => [o0, o1, .own (.dct (ss.map (eP eS eI))), o3, .no, .no, .no])) := c_body (by
  unfold P_heights_of_b4 m_heights_of_b3
  refine c_gname (e2 := [o0, o1, .own (.dct (ss.map (eP eS eI))), o3, .val ((eT5 eS eS eS eS eI) xx), .no, .no]) rfl ?_
  walk_at "~aft"
  refine c_bef (e2 := [o0, o1, .own (.dct (ss.map (eP eS eI))), o3, .val ((eT5 eS eS eS eS eI) xx), .no, .no]) rfl ?_
  walk_at "~for itT callV cons frz nameV:1 frzD nil"
  refine c_callVK (bk := fun r3 => [o0, o1, .own (.dct (ss.map (eP eS eI))), o3, .val ((eT5 eS eS eS eS eI) xx), .no, .no]) rfl (q_both_ends xx) (fun _ => rfl) fun r3 => ?_
  walk_at "~frzD itTK"
  refine c_loop (E := fun sE : (List (Str × Int)) => [o0, o1, .own (.dct (sE.map (eP eS eI))), o3, .val ((eT5 eS eS eS eS eI) xx), .no, .no]) (forL_P (E := fun sE : (List (Str × Int)) => [o0, o1, .own (.dct (sE.map (eP eS eI))), o3, .val ((eT5 eS eS eS eS eI) xx), .no, .no]) (ec := (eT2 eS eS)) (s_heights_of_b2 (o0) (o1) (o3) xx) [r3.1, r3.2] ss) fun s11 => ?_
  refine c_aftN (e2 := [o0, o1, .own (.dct (s11.map (eP eS eI))), o3, .no, .no, .no]) rfl ?_
  exact rfl)
def m_heights_of_b5 : MS := (mAft [3, 4, 5, 6] (mBef [4, 5, 6] (mFor (mItL (mName 0)) (mgName 4) m_heights_of_b3)))
def P_heights_of_b6 (ways : (List (Str × Str × Str × Str × Int))) (xx : Int) (ss : (List (Str × Int))) : Option (List (Str × Int)) :=
  (forP (P_heights_of_b4 ) ways ss).bind fun s12 =>
  some s12
theorem s_heights_of_b6 (ways : (List (Str × Str × Str × Str × Int))) (o1 : Slot) (xx : Int) (ss : (List (Str × Int))) : ((mgName 3) (eI xx) [.val ((eL (eT5 eS eS eS eS eI)) ways), o1, .own (.dct (ss.map (eP eS eI))), .no, .no, .no, .no]).bind m_heights_of_b5 = (P_heights_of_b6 ways xx ss).map (outN (fun ss : (List (Str × Int)) => [.val ((eL (eT5 eS eS eS eS eI)) ways), o1, .own (.dct (ss.map (eP eS eI))), .no, .no, .no, .no])) := c_body (by
  unfold P_heights_of_b6 m_heights_of_b5
  refine c_gname (e2 := [.val ((eL (eT5 eS eS eS eS eI)) ways), o1, .own (.dct (ss.map (eP eS eI))), .val (eI xx), .no, .no, .no]) rfl ?_
  walk_at "~aft"
  refine c_bef (e2 := [.val ((eL (eT5 eS eS eS eS eI)) ways), o1, .own (.dct (ss.map (eP eS eI))), .val (eI xx), .no, .no, .no]) rfl ?_
  walk_at "~for itL nameV:1 frzD itLK"
  refine c_loop (E := fun sE : (List (Str × Int)) => [.val ((eL (eT5 eS eS eS eS eI)) ways), o1, .own (.dct (sE.map (eP eS eI))), .val (eI xx), .no, .no, .no]) (forL_P (E := fun sE : (List (Str × Int)) => [.val ((eL (eT5 eS eS eS eS eI)) ways), o1, .own (.dct (sE.map (eP eS eI))), .val (eI xx), .no, .no, .no]) (ec := (eT5 eS eS eS eS eI)) (s_heights_of_b4 (.val ((eL (eT5 eS eS eS eS eI)) ways)) (o1) (.val (eI xx))) _ ss) fun s12 => ?_
  refine c_aftN (e2 := [.val ((eL (eT5 eS eS eS eS eI)) ways), o1, .own (.dct (s12.map (eP eS eI))), .no, .no, .no, .no]) rfl ?_
  exact rfl)
def m_heights_of : MS := (mSeq (mSet 2 (mDisp [((mName 1), (mC (.int 0)))]))
    (mSeq (mBef [3, 4, 5, 6] (mFor (mRange1 (mCons (mCB gLen (mCons (mName 0) mNil)) mNil)) (mgName 3) m_heights_of_b5))
    (mRetW [0, 1, 2, 3, 4, 5, 6] (mSortIs (mName 2)))))
def fm_heights_of : FM := fmOf 2 7 m_heights_of
theorem ok_heights_of (T : Tx w K mg fd) : FnOk P w K mg base CX0 2 (He.ga K "heights_of") (fd 9) ["ways", "camp"] (spF K fm_heights_of) :=
  fn_ok T.F_heights_of sc_heights_of fun cdv A outer s H E hr => (show VSs _ _ m_heights_of from (vs_cons (vs_set (i := 2) sc_heights_of.nd (ve_disp (.cons (ve_name 1) ve_int .nil)))
      (vs_cons (vs_bef (ws := [3, 4, 5, 6]) (vs_for PassesOwn.never (vi_range1 T.b_range (va_cons (ve_callB call_len cd_len (by rfl) T.b_len PySem.boot_len (va_cons (ve_name 0) va_nil)) va_nil)) (vg_name (j := 3) sc_heights_of.nd) (vs_aft (ws := [3, 4, 5, 6]) (vs_one (vs_bef (ws := [4, 5, 6]) (vs_for PassesOwn.never (vi_list (ve_name 0)) (vg_name (j := 4) sc_heights_of.nd) (vs_aft (ws := [4, 5, 6]) (vs_one (vs_bef (ws := [5, 6]) (vs_for PassesOwn.never (vi_tup (ve_callV none (FnOk.mono (ok_both_ends T) (by decide)) hr T.g_both_ends T.F_both_ends.kp (bi_both_ends T) (va_cons (ve_frz (ve_name 4)) va_nil))) (vg_tup (vgs_cons (vg_name (j := 5) sc_heights_of.nd) (vgs_cons (vg_name (j := 6) sc_heights_of.nd) vgs_nil)) (mgcons_len (mgcons_len mgnil_len))) (vs_aft (ws := [5, 6]) (vs_one (vs_if (vt_w (vw_and (vt_cmp (op_din hr.units) (od_din (neg := false)) (ve_name 5) (ve_name 2) (by rfl)) (vw_and1 (vt_w (vw_or (vt_cmp (op_dnin hr.units) (od_din (neg := true)) (ve_name 6) (ve_name 2) (by rfl)) (vw_or1 (vt_cmp op_lt (od_cmp (p := fun i j => decide (i < j))) (ve_op or_add od_add (ve_dget hr.units (ve_name 2) (ve_name 5) (fun _ _ => rfl)) (ve_ix ix_seq od_ix (ve_name 4) ve_int (fun _ _ => rfl))) (ve_dget hr.units (ve_name 2) (ve_name 6) (fun _ _ => rfl)) (nomark _)))))))) (vs_aft (ws := []) (vs_one (vs_asg (ve_op or_add od_add (ve_dget hr.units (ve_name 2) (ve_name 5) (fun _ _ => rfl)) (ve_ix ix_seq od_ix (ve_name 4) ve_int (fun _ _ => rfl))) (vg_put (i := 2) hr.units (ve_name 6))))) (vs_aft (ws := []) vs_nil))))))))))))))
      (vs_one (vs_retW (ve_sortIs T.b_sorted hr.units (ve_name 2)))))))
def P_heights_of (ways : (List (Str × Str × Str × Str × Int))) (camp : Str) : Option (List (Str × Int)) :=
  (some (mergeL [] [(camp, 0)])).bind fun found1 =>
  (pRng (ways.length : Int)).bind fun l2 =>
  (forP (P_heights_of_b6 ways) l2 found1).bind fun s13 =>
  (pSort (eT2 eS eI) s13).bind fun l14 =>
  some l14
theorem q_heights_of (ways : (List (Str × Str × Str × Str × Int))) (camp : Str) : fm_heights_of [.val ((eL (eT5 eS eS eS eS eI)) ways), .val (eS camp)] = (P_heights_of ways camp).map fun z => (.new (.lst (z.map (eT2 eS eI))), [.no, .no]) := by
  unfold fm_heights_of m_heights_of P_heights_of
  refine c_fm (oR := fun z : (List (Str × Int)) => .new (.lst (z.map (eT2 eS eI)))) (eR := fun z => [.no, .no, .no, .no, .no, .no, .no]) [.val ((eL (eT5 eS eS eS eS eI)) ways), .val (eS camp), .no, .no, .no, .no, .no] rfl rfl ?_ (fun _ => rfl) (fun _ => by walk_at "ik") (fun _ => rfl)
  walk_at "~seq set disp pcons frz nameV:1 frzD frz c frzD pconsK pnil"
  refine c_dispK (ek := eS) (ev := eI) keyE_str [(camp, 0)] rfl (Nat.le_of_ble_eq_true rfl) ?_
  refine c_setNLD eS eI (mergeL [] [(camp, 0)]) (fun found1 => [.val ((eL (eT5 eS eS eS eS eI)) ways), .val (eS camp), .own (.dct (found1.map (eP eS eI))), .no, .no, .no, .no]) (fun _ => rfl) fun found1 => ?_
  walk_at "~seqN seq"
  refine c_bef (e2 := [.val ((eL (eT5 eS eS eS eS eI)) ways), .val (eS camp), .own (.dct (found1.map (eP eS eI))), .no, .no, .no, .no]) rfl ?_
  walk_at "~for rng cons cb cons nameV:1 nil"
  refine c_cbK _ rfl ?_
  refine c_pur (x_lenL (e := (eT5 eS eS eS eS eI)) (l := ways)) ?_
  walk_at "~nil"
  refine c_rngK rfl fun l2 => ?_
  refine c_loop (E := fun sE : (List (Str × Int)) => [.val ((eL (eT5 eS eS eS eS eI)) ways), .val (eS camp), .own (.dct (sE.map (eP eS eI))), .no, .no, .no, .no]) (forL_P (E := fun sE : (List (Str × Int)) => [.val ((eL (eT5 eS eS eS eS eI)) ways), .val (eS camp), .own (.dct (sE.map (eP eS eI))), .no, .no, .no, .no]) (ec := eI) (s_heights_of_b6 ways (.val (eS camp))) _ found1) fun s13 => ?_
  walk_at "~seqN ret sortIs nameO:1"
  refine c_sIK (ec := (eT2 eS eI)) s13 (by exact rfl) mapI fun l14 => ?_
  refine c_retK (.new (.lst (l14.map (eT2 eS eI)))) rfl (e2 := [.no, .no, .no, .no, .no, .no, .no]) rfl ?_
  exact rfl
def m_rows_into_b1 : MS := (mAft [6, 7] (mIfS (mLendKT (mAnd (mTest (mOp (gEq false) (mName 7) (mName 3))) (mAnd (mTest (mOp (gDIn false) (mName 6) (mTyE (fun d => ((decM decS (decL decS)).f d).isSome) (mKn (mName 2))))) (mTest (mOp (gEq false) (mOp gAdd (mOp gDGet (mName 1) (mName 6)) (mOp gIx (mName 5) (mC (.int 4)))) (mOp gDGet (mName 1) (mName 3))))))) (mAft [] (mDrop (mPM gAppP (mName 4) (mCons (mIn (mLendK none (mOp gAdd (mTyE (fun d => ((decL decS).f d).isSome) (mKn (mPdx (mName 2) (mName 6)))) (mLst (mCons (mFrz (mOp gIx (mName 5) (mC (.int 0)))) mNil))))) mNil)))) (mAft [] mSkip)))
def P_rows_into_b2 (height_by : (List (Str × Int))) (row_by : PV) (camp : Str) (way : (Str × Str × Str × Str × Int)) (xx : (Str × Str)) (ss : (PV × (List MC))) : Option (PV × (List MC)) :=
  (if decide (xx.2 = camp) = true then
    (PV.deep ss.2 9 row_by).bind fun d5 =>
    ((decM decS (decL decS)).f d5).bind fun v6 =>
    (if (look v6 xx.1).isSome = true then
      (look height_by xx.1).bind fun t7 =>
      (look height_by camp).bind fun t8 =>
      some (decide ((t7 + way.2.2.2.2) = t8))
    else
      some false).bind fun z9 =>
    some z9
  else
    some false).bind fun z10 =>
  (if z10 = true then
    (gd (isLP ss.2 ss.1 = true)).bind fun _ =>
    (pPdx ss.2 row_by (eS xx.1)).bind fun p14 =>
    (PV.deep ss.2 9 p14).bind fun d15 =>
    ((decL decS).f d15).bind fun v16 =>
    (pCat v16 [way.1]).bind fun t17 =>
    (some (ss.2 ++ [.lst ((t17.map eS).map .dat)])).bind fun M18 =>
    (gAppP M18 ss.1 [(PV.ref ss.2.length)]).bind fun z19 =>
    some (ss.1, z19.2)
  else
    some (ss.1, ss.2)).bind fun z11 =>
  some (z11.1, z11.2)
theorem s_rows_into_b2 (o0 : Slot) (height_by : (List (Str × Int))) (row_by : PV) (camp : Str) (way : (Str × Str × Str × Str × Int)) (xx : (Str × Str)) (ss : (PV × (List MC))) : ((mgTup (mgCons (mgName 6) (mgCons (mgName 7) mgNil))) ((eT2 eS eS) xx) [o0, .val ((eM eS eI) height_by), .pv row_by, .val (eS camp), .pv ss.1, .val ((eT5 eS eS eS eS eI) way), .no, .no, .sto ss.2]).bind m_rows_into_b1 = (P_rows_into_b2 height_by row_by camp way xx ss).map (outN (fun ss : (PV × (List MC)) => [o0, .val ((eM eS eI) height_by), .pv row_by, .val (eS camp), .pv ss.1, .val ((eT5 eS eS eS eS eI) way), .no, .no, .sto ss.2])) := c_body (by
  unfold P_rows_into_b2 m_rows_into_b1
  walk_at "~gtup gcons"
  refine c_gname (e2 := [o0, .val ((eM eS eI) height_by), .pv row_by, .val (eS camp), .pv ss.1, .val ((eT5 eS eS eS eS eI) way), .val (eS xx.1), .no, .sto ss.2]) rfl ?_
  walk_at "~gcons"
  refine c_gname (e2 := [o0, .val ((eM eS eI) height_by), .pv row_by, .val (eS camp), .pv ss.1, .val ((eT5 eS eS eS eS eI) way), .val (eS xx.1), .val (eS xx.2), .sto ss.2]) rfl ?_
  walk_at "~gnil aft ifS"
  refine c_lendXT (M := ss.2) rfl fun L3 hl4 => ?_
  refine c_lendX2 (e2 := [lentSlotK L3 o0, .val ((eM eS eI) height_by), .pv row_by, .val (eS camp), .pv ss.1, .val ((eT5 eS eS eS eS eI) way), .val (eS xx.1), .val (eS xx.2), .sto L3]) rfl ?_
  walk_at "~andB test op nameV:1 nameV:1 opK:2"
  refine c_pur x_eqS0 ?_
  walk_at "~testK"
  refine c_ifJ (fun z10 => (z10, [lentSlotK L3 o0, .val ((eM eS eI) height_by), .pv row_by, .val (eS camp), .pv ss.1, .val ((eT5 eS eS eS eS eI) way), .val (eS xx.1), .val (eS xx.2), .sto L3])) ?_ ?_ fun z10 => ?_
  · refine c_andB ?_
    walk_at "~test op nameV:1 tyE kn nameP:1"
    refine c_knL hl4 rfl rfl fun d5 => ?_
    refine c_tyEK (decM decS (decL decS)) fun v6 => ?_
    walk_at "~opK:2"
    refine c_pur (x_din0 keyE_str) ?_
    walk_at "~testK"
    refine c_ifJ (fun z9 => (z9, [lentSlotK L3 o0, .val ((eM eS eI) height_by), .pv row_by, .val (eS camp), .pv ss.1, .val ((eT5 eS eS eS eS eI) way), .val (eS xx.1), .val (eS xx.2), .sto L3])) ?_ ?_ fun z9 => ?_
    · refine c_test ?_
      walk_at "~op op op nameV:1 nameV:1 opK:2"
      refine c_cal (x_dget (ev := eI) (l := height_by) keyE_str) fun t7 => ?_
      walk_at "~op nameV:1 c opK:2"
      refine c_pur (x_ixT rfl) ?_
      walk_at "~opK:2"
      refine c_pur x_add ?_
      walk_at "~op nameV:1 nameV:1 opK:2"
      refine c_cal (x_dget (ev := eI) (l := height_by) keyE_str) fun t8 => ?_
      walk_at "~opK:2"
      refine c_pur x_eqI0 ?_
      walk_at "~testK"
      exact rfl
    · exact rfl
    exact rfl
  · exact rfl
  refine c_ifJ (fun z11 : (PV × (List MC)) => (.nx, [o0, .val ((eM eS eI) height_by), .pv row_by, .val (eS camp), .pv z11.1, .val ((eT5 eS eS eS eS eI) way), .val (eS xx.1), .val (eS xx.2), .sto z11.2])) ?_ ?_ fun z11 => ?_
  · refine c_aft ?_
    walk_at "~drop pm nameP:1"
    refine c_pmK0 (x := ss.1) rfl rfl fun _ => ?_
    walk_at "~cons in"
    refine c_lendX (M := ss.2) rfl fun L12 hl13 => ?_
    refine c_lendX2 (e2 := [lentSlotK L12 o0, .val ((eM eS eI) height_by), .pv row_by, .val (eS camp), .pv ss.1, .val ((eT5 eS eS eS eS eI) way), .val (eS xx.1), .val (eS xx.2), .sto L12]) rfl ?_
    walk_at "~op tyE kn pdx nameP:1 nameV:1"
    refine c_pdxL (d := (eS xx.1)) hl13 rfl rfl fun p14 => ?_
    refine c_knL hl13 rfl rfl fun d15 => ?_
    refine c_tyEK (decL decS) fun v16 => ?_
    walk_at "~lst cons frz op nameV:1 c opK:2"
    refine c_pur (x_ixT rfl) ?_
    walk_at "~frzD nil"
    refine c_lstK ([way.1].map eS) rfl (Nat.le_of_ble_eq_true rfl) ?_
    walk_at "~opK:2"
    refine c_cal (x_cat (e := eS)) fun t17 => ?_
    refine c_lendF (fl_strs _) ?_
    refine c_inN ss.2 (.lst ((t17.map eS).map .dat)) (fun M18 => [o0, .val ((eM eS eI) height_by), .pv row_by, .val (eS camp), .pv ss.1, .val ((eT5 eS eS eS eS eI) way), .val (eS xx.1), .val (eS xx.2), .sto M18]) rfl rfl (fun _ => by exact rfl) fun M18 => ?_
    walk_at "~nil"
    refine c_pmK [(PV.ref ss.2.length)] (fun M_ => [o0, .val ((eM eS eI) height_by), .pv row_by, .val (eS camp), .pv ss.1, .val ((eT5 eS eS eS eS eI) way), .val (eS xx.1), .val (eS xx.2), .sto M_]) rfl rfl (fun _ => rfl) fun z19 => ?_
    refine c_aftN (e2 := [o0, .val ((eM eS eI) height_by), .pv row_by, .val (eS camp), .pv ss.1, .val ((eT5 eS eS eS eS eI) way), .val (eS xx.1), .val (eS xx.2), .sto z19.2]) rfl ?_
    exact rfl
  · refine c_aft ?_
    walk_at "~skip"
    refine c_aftN (e2 := [o0, .val ((eM eS eI) height_by), .pv row_by, .val (eS camp), .pv ss.1, .val ((eT5 eS eS eS eS eI) way), .val (eS xx.1), .val (eS xx.2), .sto ss.2]) rfl ?_
    exact rfl
  refine c_aftN (e2 := [o0, .val ((eM eS eI) height_by), .pv row_by, .val (eS camp), .pv z11.1, .val ((eT5 eS eS eS eS eI) way), .no, .no, .sto z11.2]) rfl ?_
  exact rfl)
def m_rows_into_b3 : MS := (mAft [5, 6, 7] (mBef [6, 7] (mFor (mItT (mCallV fm_both_ends none (mCons (mFrz (mName 5)) mNil))) (mgTup (mgCons (mgName 6) (mgCons (mgName 7) mgNil))) m_rows_into_b1)))
def P_rows_into_b4 (height_by : (List (Str × Int))) (row_by : PV) (camp : Str) (xx : (Str × Str × Str × Str × Int)) (ss : (PV × (List MC))) : Option (PV × (List MC)) :=
  (P_both_ends xx).bind fun r2 =>
  (forP (P_rows_into_b2 height_by row_by camp xx) [r2.1, r2.2] (ss.1, ss.2)).bind fun s20 =>
  some (s20.1, s20.2)
theorem s_rows_into_b4 (o0 : Slot) (height_by : (List (Str × Int))) (row_by : PV) (camp : Str) (xx : (Str × Str × Str × Str × Int)) (ss : (PV × (List MC))) : ((mgName 5) ((eT5 eS eS eS eS eI) xx) [o0, .val ((eM eS eI) height_by), .pv row_by, .val (eS camp), .pv ss.1, .no, .no, .no, .sto ss.2]).bind m_rows_into_b3 = (P_rows_into_b4 height_by row_by camp xx ss).map (outN (fun ss : (PV × (List MC)) => [o0, .val ((eM eS eI) height_by), .pv row_by, .val (eS camp), .pv ss.1, .no, .no, .no, .sto ss.2])) := c_body (by
  unfold P_rows_into_b4 m_rows_into_b3
  refine c_gname (e2 := [o0, .val ((eM eS eI) height_by), .pv row_by, .val (eS camp), .pv ss.1, .val ((eT5 eS eS eS eS eI) xx), .no, .no, .sto ss.2]) rfl ?_
  walk_at "~aft"
  refine c_bef (e2 := [o0, .val ((eM eS eI) height_by), .pv row_by, .val (eS camp), .pv ss.1, .val ((eT5 eS eS eS eS eI) xx), .no, .no, .sto ss.2]) rfl ?_
  walk_at "~for itT callV cons frz nameV:1 frzD nil"
  refine c_callVK (bk := fun r2 => [o0, .val ((eM eS eI) height_by), .pv row_by, .val (eS camp), .pv ss.1, .val ((eT5 eS eS eS eS eI) xx), .no, .no, .sto ss.2]) rfl (q_both_ends xx) (fun _ => rfl) fun r2 => ?_
  walk_at "~frzD itTK"
  refine c_loop (E := fun sE : (PV × (List MC)) => [o0, .val ((eM eS eI) height_by), .pv row_by, .val (eS camp), .pv sE.1, .val ((eT5 eS eS eS eS eI) xx), .no, .no, .sto sE.2]) (forL_P (E := fun sE : (PV × (List MC)) => [o0, .val ((eM eS eI) height_by), .pv row_by, .val (eS camp), .pv sE.1, .val ((eT5 eS eS eS eS eI) xx), .no, .no, .sto sE.2]) (ec := (eT2 eS eS)) (s_rows_into_b2 (o0) height_by row_by camp xx) [r2.1, r2.2] (ss.1, ss.2)) fun s20 => ?_
  refine c_aftN (e2 := [o0, .val ((eM eS eI) height_by), .pv row_by, .val (eS camp), .pv s20.1, .no, .no, .no, .sto s20.2]) rfl ?_
  exact rfl)
def m_rows_into : MS := (mSeq (mSet 4 (mPlst mNil))
    (mSeq (mBef [5, 6, 7] (mFor (mItL (mName 0)) (mgName 5) m_rows_into_b3))
    (mRetW [0, 1, 2, 3, 4, 5, 6, 7] (mName 4))))
def fmM_rows_into : FMM := fmM 4 9 m_rows_into
theorem okM_rows_into (T : Tx w K mg fd) : FnOk P w K mg base CX0 2 (He.ga K "rows_into") (fd 10) ["ways", "height_by", "row_by", "camp"] (spM K fmM_rows_into) :=
  fnM_ok T.F_rows_into sc_rows_into (by decide) fun cdv A outer s H E hr => (show VSs _ _ m_rows_into from (vs_cons (vs_set (i := 4) sc_rows_into.nd (ve_plst va_nil))
      (vs_cons (vs_bef (ws := [5, 6, 7]) (vs_for PassesOwn.never (vi_list (ve_name 0)) (vg_name (j := 5) sc_rows_into.nd) (vs_aft (ws := [5, 6, 7]) (vs_one (vs_bef (ws := [6, 7]) (vs_for PassesOwn.never (vi_tup (ve_callV none (FnOk.mono (ok_both_ends T) (by decide)) hr T.g_both_ends T.F_both_ends.kp (bi_both_ends T) (va_cons (ve_frz (ve_name 5)) va_nil))) (vg_tup (vgs_cons (vg_name (j := 6) sc_rows_into.nd) (vgs_cons (vg_name (j := 7) sc_rows_into.nd) vgs_nil)) (mgcons_len (mgcons_len mgnil_len))) (vs_aft (ws := [6, 7]) (vs_one (vs_if (vt_lendK (vt_w (vw_and (vt_cmp (or_eq hr.units) od_eq (ve_name 7) (ve_name 3) (nomark _)) (vw_and (vt_cmp (op_din hr.units) (od_din (neg := false)) (ve_name 6) (ve_tyE (ve_kn (ve_name 2))) (by rfl)) (vw_and1 (vt_cmp (or_eq hr.units) od_eq (ve_op or_add od_add (ve_dget hr.units (ve_name 1) (ve_name 6) (fun _ _ => rfl)) (ve_ix ix_seq od_ix (ve_name 5) ve_int (fun _ _ => rfl))) (ve_dget hr.units (ve_name 1) (ve_name 3) (fun _ _ => rfl)) (nomark _))))))) (vs_aft (ws := []) (vs_one (vs_expr (ve_pm PySem.F.slot_list_append PySem.F.type_list_append mt_append pm_app (ve_name 4) (va_cons (ve_in (ve_lendK (ve_op or_add od_add (ve_tyE (ve_kn (ve_pdx hr.units (ve_name 2) (ve_name 6) (fun _ _ => rfl)))) (ve_lst (va_cons (ve_frz (ve_ix ix_seq od_ix (ve_name 5) ve_int (fun _ _ => rfl))) va_nil))))) va_nil))))) (vs_aft (ws := []) vs_nil))))))))))
      (vs_one (vs_retW (ve_name 4))))))
def P_rows_into (ways : (List (Str × Str × Str × Str × Int))) (height_by : (List (Str × Int))) (row_by : PV) (camp : Str) (M0 : List MC) : Option (PV × List MC) :=
  (some (M0 ++ [.lst []])).bind fun M1 =>
  (forP (P_rows_into_b4 height_by row_by camp) ways ((PV.ref M0.length), M1)).bind fun s21 =>
  some (s21.1, s21.2)
theorem b_rows_into (ways : (List (Str × Str × Str × Str × Int))) (height_by : (List (Str × Int))) (row_by : PV) (camp : Str) (M0 : List MC) : m_rows_into [.val ((eL (eT5 eS eS eS eS eI)) ways), .val ((eM eS eI) height_by), .pv row_by, .val (eS camp), .no, .no, .no, .no, .sto M0] = (P_rows_into ways height_by row_by camp M0).map fun z : (PV × List MC) => (Fl.rt (.pv z.1), ([.no, .no, .no, .no, .no, .no, .no, .no, .sto z.2] : Sl)) := by
  unfold m_rows_into P_rows_into
  refine c_map (out := fun z : (PV × List MC) => (Fl.rt (.pv z.1), ([.no, .no, .no, .no, .no, .no, .no, .no, .sto z.2] : Sl))) ?_
  walk_at "~seq set plst nil"
  refine c_plstK (ps := []) M0 (fun M1 => [.val ((eL (eT5 eS eS eS eS eI)) ways), .val ((eM eS eI) height_by), .pv row_by, .val (eS camp), .no, .no, .no, .no, .sto M1]) rfl rfl (Nat.le_of_ble_eq_true rfl) (fun _ => rfl) fun M1 => ?_
  refine c_setP (e2 := [.val ((eL (eT5 eS eS eS eS eI)) ways), .val ((eM eS eI) height_by), .pv row_by, .val (eS camp), .pv (PV.ref M0.length), .no, .no, .no, .sto M1]) rfl ?_
  walk_at "~seqN seq"
  refine c_bef (e2 := [.val ((eL (eT5 eS eS eS eS eI)) ways), .val ((eM eS eI) height_by), .pv row_by, .val (eS camp), .pv (PV.ref M0.length), .no, .no, .no, .sto M1]) rfl ?_
  walk_at "~for itL nameV:1 frzD itLK"
  refine c_loop (E := fun sE : (PV × (List MC)) => [.val ((eL (eT5 eS eS eS eS eI)) ways), .val ((eM eS eI) height_by), .pv row_by, .val (eS camp), .pv sE.1, .no, .no, .no, .sto sE.2]) (forL_P (E := fun sE : (PV × (List MC)) => [.val ((eL (eT5 eS eS eS eS eI)) ways), .val ((eM eS eI) height_by), .pv row_by, .val (eS camp), .pv sE.1, .no, .no, .no, .sto sE.2]) (ec := (eT5 eS eS eS eS eI)) (s_rows_into_b4 (.val ((eL (eT5 eS eS eS eS eI)) ways)) height_by row_by camp) _ ((PV.ref M0.length), M1)) fun s21 => ?_
  walk_at "~seqN ret nameP:1"
  refine c_retK (.pv s21.1) rfl (e2 := [.no, .no, .no, .no, .no, .no, .no, .no, .sto s21.2]) rfl ?_
  exact rfl
theorem q_rows_into (ways : (List (Str × Str × Str × Str × Int))) (height_by : (List (Str × Int))) (row_by : PV) (camp : Str) (M0 : List MC) : fmM_rows_into M0 [.val ((eL (eT5 eS eS eS eS eI)) ways), .val ((eM eS eI) height_by), .pv row_by, .val (eS camp)] = (P_rows_into ways height_by row_by camp M0).map fun z => (.pv z.1, [.no, .no, .no, .no], z.2) := (fmM_ofG (b_rows_into ways height_by row_by camp M0) (fun _ => rfl) rfl rfl (fun _ => by walk_at "ik") (fun _ => rfl) (fun _ => rfl))
def m_least_row_e1 : ME := (mTup (mCons (mFrz (mOp gDGet (mName 3) (mName 6))) (mCons (mFrz (mName 6)) mNil)))
def P_least_row_l2 (height_by : (List (Str × Int))) (y4 : Str) : Option (Int × Str) :=
  (look height_by y4).bind fun t5 =>
  some (t5, y4)
theorem s_least_row_l2 (o0 : Slot) (o1 : Slot) (o2 : Slot) (height_by : (List (Str × Int))) (o4 : Slot) (o7 : Slot) (y4 : Str) : lcStep (mgName 6) mYes m_least_row_e1 [6] (eS y4) [o0, o1, o2, .val ((eM eS eI) height_by), o4, .no, .no, o7] = (P_least_row_l2 height_by y4).map fun z => (some ((eT2 eI eS) z), [o0, o1, o2, .val ((eM eS eI) height_by), o4, .no, .no, o7]) := c_stepM (α := Unit) (by
  unfold P_least_row_l2
  refine c_gname (e2 := [o0, o1, o2, .val ((eM eS eI) height_by), o4, .no, .val (eS y4), o7]) rfl ?_
  walk_at "~yes iteT bb tup cons frz op nameV:1 nameV:1 opK:2"
  refine c_cal (x_dget (ev := eI) (l := height_by) keyE_str) fun t5 => ?_
  walk_at "~frzD cons frz nameV:1 frzD nil"
  refine c_tupK _ rfl (Nat.le_of_ble_eq_true rfl) ?_
  walk_at "~frzD"
  refine c_elt (e1 := [o0, o1, o2, .val ((eM eS eI) height_by), o4, .no, .no, o7]) rfl ?_
  exact rfl)
def m_least_row_b3 : MS := (mAft [5, 6] (mIfS (mTest (mOp (gEq true) (mName 6) (mName 1))) (mAft [] (mPsetD (mPix (mSortRkP (mCallM fmM_rows_into none (mCons (mFrz (mName 0)) (mCons (mFrz (mName 3)) (mCons (mName 4) (mCons (mFrz (mName 6)) mNil)))))) (mC (.int 0))) (mName 4) (mName 6))) (mAft [] mSkip)))
def P_least_row_b4 (ways : (List (Str × Str × Str × Str × Int))) (camp : Str) (height_by : (List (Str × Int))) (xx : (Int × Str)) (ss : (PV × (List MC))) : Option (PV × (List MC)) :=
  (if (!decide (xx.2 = camp)) = true then
    (P_rows_into ways height_by ss.1 xx.2 ss.2).bind fun r9 =>
    ((sortRkP r9.2 r9.1).map fun ps => r9.2 ++ [.lst ps]).bind fun M10 =>
    (PV.ix M10 (PV.ref r9.2.length) 0).bind fun p11 =>
    ((keyOf (eS xx.2)).bind fun q => setDP M10 ss.1 q p11).bind fun M12 =>
    some (ss.1, M12)
  else
    some (ss.1, ss.2)).bind fun z8 =>
  some (z8.1, z8.2)
theorem s_least_row_b4 (ways : (List (Str × Str × Str × Str × Int))) (camp : Str) (o2 : Slot) (height_by : (List (Str × Int))) (xx : (Int × Str)) (ss : (PV × (List MC))) : ((mgTup (mgCons (mgName 5) (mgCons (mgName 6) mgNil))) ((eT2 eI eS) xx) [.val ((eL (eT5 eS eS eS eS eI)) ways), .val (eS camp), o2, .val ((eM eS eI) height_by), .pv ss.1, .no, .no, .sto ss.2]).bind m_least_row_b3 = (P_least_row_b4 ways camp height_by xx ss).map (outN (fun ss : (PV × (List MC)) => [.val ((eL (eT5 eS eS eS eS eI)) ways), .val (eS camp), o2, .val ((eM eS eI) height_by), .pv ss.1, .no, .no, .sto ss.2])) := c_body (by
  unfold P_least_row_b4 m_least_row_b3
  walk_at "~gtup gcons"
  refine c_gname (e2 := [.val ((eL (eT5 eS eS eS eS eI)) ways), .val (eS camp), o2, .val ((eM eS eI) height_by), .pv ss.1, .val (eI xx.1), .no, .sto ss.2]) rfl ?_
  walk_at "~gcons"
  refine c_gname (e2 := [.val ((eL (eT5 eS eS eS eS eI)) ways), .val (eS camp), o2, .val ((eM eS eI) height_by), .pv ss.1, .val (eI xx.1), .val (eS xx.2), .sto ss.2]) rfl ?_
  walk_at "~gnil aft ifS test op nameV:1 nameV:1 opK:2"
  refine c_pur x_eqS1 ?_
  walk_at "~testK"
  refine c_ifJ (fun z8 : (PV × (List MC)) => (.nx, [.val ((eL (eT5 eS eS eS eS eI)) ways), .val (eS camp), o2, .val ((eM eS eI) height_by), .pv z8.1, .val (eI xx.1), .val (eS xx.2), .sto z8.2])) ?_ ?_ fun z8 => ?_
  · refine c_aft ?_
    walk_at "~psetD in pix sortRkP callM cons frz nameV:1 frzD cons frz nameV:1 frzD cons nameP:1 cons frz nameV:1 frzD nil"
    refine c_callMK (bk := fun r9 => [.val ((eL (eT5 eS eS eS eS eI)) ways), .val (eS camp), o2, .val ((eM eS eI) height_by), .pv ss.1, .val (eI xx.1), .val (eS xx.2), .sto r9.2]) rfl rfl (q_rows_into ways height_by ss.1 xx.2 ss.2) (fun _ => by exact rfl) fun r9 => ?_
    refine c_sortRkPK (E := fun M10 => [.val ((eL (eT5 eS eS eS eS eI)) ways), .val (eS camp), o2, .val ((eM eS eI) height_by), .pv ss.1, .val (eI xx.1), .val (eS xx.2), .sto M10]) rfl rfl (fun _ => by exact rfl) fun M10 => ?_
    walk_at "~c"
    refine c_pixK (i := 0) rfl rfl fun p11 => ?_
    walk_at "~inP nameP:1 nameV:1"
    refine c_psetDK (d := (eS xx.2)) (fun M12 => [.val ((eL (eT5 eS eS eS eS eI)) ways), .val (eS camp), o2, .val ((eM eS eI) height_by), .pv ss.1, .val (eI xx.1), .val (eS xx.2), .sto M12]) rfl rfl rfl (fun _ => by exact rfl) fun M12 => ?_
    refine c_aftN (e2 := [.val ((eL (eT5 eS eS eS eS eI)) ways), .val (eS camp), o2, .val ((eM eS eI) height_by), .pv ss.1, .val (eI xx.1), .val (eS xx.2), .sto M12]) rfl ?_
    exact rfl
  · refine c_aft ?_
    walk_at "~skip"
    refine c_aftN (e2 := [.val ((eL (eT5 eS eS eS eS eI)) ways), .val (eS camp), o2, .val ((eM eS eI) height_by), .pv ss.1, .val (eI xx.1), .val (eS xx.2), .sto ss.2]) rfl ?_
    exact rfl
  refine c_aftN (e2 := [.val ((eL (eT5 eS eS eS eS eI)) ways), .val (eS camp), o2, .val ((eM eS eI) height_by), .pv z8.1, .no, .no, .sto z8.2]) rfl ?_
  exact rfl)
def m_least_row : MS := (mSeq (mPutU [3, 4] (mConsU (mCB gDict (mCons (mCallV fm_heights_of none (mCons (mFrz (mName 0)) (mCons (mFrz (mName 1)) mNil))) mNil)) (mConsU (mPDisp [((mName 1), (mPlst mNil))]) mNil)))
    (mSeq (mBef [5, 6] (mFor (mItL (mCB gSortX (mCons (mLc (mItK (mName 3)) (mgName 6) mYes m_least_row_e1 [6]) mNil))) (mgTup (mgCons (mgName 5) (mgCons (mgName 6) mgNil))) m_least_row_b3))
    (mRetW [0, 1, 2, 3, 4, 5, 6] (mDGetP1 (mName 4) (mName 2)))))
def fm_least_row : FM := fmSt 3 8 m_least_row
theorem ok_least_row (T : Tx w K mg fd) : FnOk P w K mg base CX0 3 (He.ga K "least_row") (fd 11) ["ways", "camp", "other"] (spF K fm_least_row) :=
  fn_okS T.F_least_row sc_least_row fun cdv A outer s H E hr => (show VSs _ _ m_least_row from (vs_cons (vs_asgT (is := [3, 4]) (vau_cons (ve_callTy (call_dictP rfl) cd_dict (by rfl) T.b_dict (by decide +kernel) (va_cons (ve_callV none (FnOk.mono (ok_heights_of T) (by decide)) hr T.g_heights_of T.F_heights_of.kp (bi_heights_of T) (va_cons (ve_frz (ve_name 0)) (va_cons (ve_frz (ve_name 1)) va_nil))) va_nil)) (vau_cons (ve_pdisp (.cons (ve_name 1) (ve_plst va_nil) .nil)) vau_nil)) (pgs_cons (pg_name (i := 3) sc_least_row.nd rfl (Or.inr rfl)) (pgs_cons (pg_name (i := 4) sc_least_row.nd rfl (Or.inl rfl)) pgs_nil)))
      (vs_cons (vs_bef (ws := [5, 6]) (vs_for PassesOwn.never (vi_list (ve_callB (cr_sortX hr.units) cd_sortX (by rfl) T.b_sorted (by decide +kernel) (va_cons (ve_lc (own := [("there", 6)]) sc_least_row.nd (vi_keys (ve_name 3)) (blkOk_by (own := [("there", 6)]) (N := ["ways", "camp", "other", "height_by", "row_by", "height", "there", "@"]) (sc := defScope s_least_row) (by decide +kernel)) (fun _ _ _ _ _ => (vg_name (j := 6) sc_least_row.nd)) (fun _ _ _ _ _ => vts_nil) (fun _ _ _ _ _ => (ve_tup (va_cons (ve_frz (ve_dget hr.units (ve_name 3) (ve_name 6) (fun _ _ => rfl))) (va_cons (ve_frz (ve_name 6)) va_nil)))) (by decide)) va_nil))) (vg_tup (vgs_cons (vg_name (j := 5) sc_least_row.nd) (vgs_cons (vg_name (j := 6) sc_least_row.nd) vgs_nil)) (mgcons_len (mgcons_len mgnil_len))) (vs_aft (ws := [5, 6]) (vs_one (vs_if (vt_cmp (or_ne hr.units) od_ne (ve_name 6) (ve_name 1) (nomark _)) (vs_aft (ws := []) (vs_one (vs_psetD hr.units (ve_pix (ve_sortRkP T.F_row_rank sc_row_rank hr T.b_sorted T.b_len T.g_row_rank (ve_callM none (FnOk.mono (okM_rows_into T) (by decide)) hr T.g_rows_into T.F_rows_into.kp (bi_rows_into T) (va_cons (ve_frz (ve_name 0)) (va_cons (ve_frz (ve_name 3)) (va_cons (ve_name 4) (va_cons (ve_frz (ve_name 6)) va_nil)))))) ve_int (fun _ _ => rfl)) (ve_name 4) (ve_name 6)))) (vs_aft (ws := []) vs_nil))))))
      (vs_one (vs_retW (ve_dgetP1 hr.units (ve_name 4) (ve_name 2)))))))
def fmM_least_row : FMM := fmM 3 8 m_least_row
theorem okM_least_row (T : Tx w K mg fd) : FnOk P w K mg base CX0 3 (He.ga K "least_row") (fd 11) ["ways", "camp", "other"] (spM K fmM_least_row) :=
  fnM_ok T.F_least_row sc_least_row (by decide) fun cdv A outer s H E hr => (show VSs _ _ m_least_row from (vs_cons (vs_asgT (is := [3, 4]) (vau_cons (ve_callTy (call_dictP rfl) cd_dict (by rfl) T.b_dict (by decide +kernel) (va_cons (ve_callV none (FnOk.mono (ok_heights_of T) (by decide)) hr T.g_heights_of T.F_heights_of.kp (bi_heights_of T) (va_cons (ve_frz (ve_name 0)) (va_cons (ve_frz (ve_name 1)) va_nil))) va_nil)) (vau_cons (ve_pdisp (.cons (ve_name 1) (ve_plst va_nil) .nil)) vau_nil)) (pgs_cons (pg_name (i := 3) sc_least_row.nd rfl (Or.inr rfl)) (pgs_cons (pg_name (i := 4) sc_least_row.nd rfl (Or.inl rfl)) pgs_nil)))
      (vs_cons (vs_bef (ws := [5, 6]) (vs_for PassesOwn.never (vi_list (ve_callB (cr_sortX hr.units) cd_sortX (by rfl) T.b_sorted (by decide +kernel) (va_cons (ve_lc (own := [("there", 6)]) sc_least_row.nd (vi_keys (ve_name 3)) (blkOk_by (own := [("there", 6)]) (N := ["ways", "camp", "other", "height_by", "row_by", "height", "there", "@"]) (sc := defScope s_least_row) (by decide +kernel)) (fun _ _ _ _ _ => (vg_name (j := 6) sc_least_row.nd)) (fun _ _ _ _ _ => vts_nil) (fun _ _ _ _ _ => (ve_tup (va_cons (ve_frz (ve_dget hr.units (ve_name 3) (ve_name 6) (fun _ _ => rfl))) (va_cons (ve_frz (ve_name 6)) va_nil)))) (by decide)) va_nil))) (vg_tup (vgs_cons (vg_name (j := 5) sc_least_row.nd) (vgs_cons (vg_name (j := 6) sc_least_row.nd) vgs_nil)) (mgcons_len (mgcons_len mgnil_len))) (vs_aft (ws := [5, 6]) (vs_one (vs_if (vt_cmp (or_ne hr.units) od_ne (ve_name 6) (ve_name 1) (nomark _)) (vs_aft (ws := []) (vs_one (vs_psetD hr.units (ve_pix (ve_sortRkP T.F_row_rank sc_row_rank hr T.b_sorted T.b_len T.g_row_rank (ve_callM none (FnOk.mono (okM_rows_into T) (by decide)) hr T.g_rows_into T.F_rows_into.kp (bi_rows_into T) (va_cons (ve_frz (ve_name 0)) (va_cons (ve_frz (ve_name 3)) (va_cons (ve_name 4) (va_cons (ve_frz (ve_name 6)) va_nil)))))) ve_int (fun _ _ => rfl)) (ve_name 4) (ve_name 6)))) (vs_aft (ws := []) vs_nil))))))
      (vs_one (vs_retW (ve_dgetP1 hr.units (ve_name 4) (ve_name 2)))))))
def P_least_row (ways : (List (Str × Str × Str × Str × Int))) (camp : Str) (other : Str) (M0 : List MC) : Option (PV × List MC) :=
  (P_heights_of ways camp).bind fun r1 =>
  (some (M0 ++ [.lst []])).bind fun M2 =>
  (some (M2 ++ [MC.dct [((eS camp), (PV.ref M0.length))]])).bind fun M3 =>
  (gd (((mergeL [] r1).map Prod.fst).length ≤ 100000)).bind fun _ =>
  (mapO (P_least_row_l2 (mergeL [] r1)) ((mergeL [] r1).map Prod.fst)).bind fun l6 =>
  (pSort (eT2 eI eS) l6).bind fun l7 =>
  (forP (P_least_row_b4 ways camp (mergeL [] r1)) l7 ((PV.ref M2.length), M3)).bind fun s13 =>
  (gd (isDP s13.2 s13.1 = true)).bind fun _ =>
  (gGet1 s13.2 s13.1 (PV.dat (eS other))).bind fun p14 =>
  some (p14, s13.2)
theorem b_least_row (ways : (List (Str × Str × Str × Str × Int))) (camp : Str) (other : Str) (M0 : List MC) : m_least_row [.val ((eL (eT5 eS eS eS eS eI)) ways), .val (eS camp), .val (eS other), .no, .no, .no, .no, .sto M0] = (P_least_row ways camp other M0).map fun z : (PV × List MC) => (Fl.rt (.pv z.1), ([.no, .no, .no, .no, .no, .no, .no, .sto z.2] : Sl)) := by
  unfold m_least_row P_least_row
  refine c_map (out := fun z : (PV × List MC) => (Fl.rt (.pv z.1), ([.no, .no, .no, .no, .no, .no, .no, .sto z.2] : Sl))) ?_
  walk_at "~seq putU consU cb cons callV cons frz nameV:1 frzD cons frz nameV:1 frzD nil"
  refine c_callVK (bk := fun r1 => [.val ((eL (eT5 eS eS eS eS eI)) ways), .val (eS camp), .val (eS other), .no, .no, .no, .no, .sto M0]) rfl (q_heights_of ways camp) (fun _ => rfl) fun r1 => ?_
  walk_at "~nil"
  refine c_cbK _ rfl ?_
  refine c_pur (x_dict (ev := eI) (l := r1) keyE_str) ?_
  walk_at "~frzSN consU pdisp qcons frz nameV:1 frzD in plst nil"
  refine c_plstK (ps := []) M0 (fun M2 => [.val ((eL (eT5 eS eS eS eS eI)) ways), .val (eS camp), .val (eS other), .no, .no, .no, .no, .sto M2]) rfl rfl (Nat.le_of_ble_eq_true rfl) (fun _ => rfl) fun M2 => ?_
  walk_at "~inP"
  refine c_qconsK (d := (PV.ref M0.length)) rfl ?_
  walk_at "~qnil"
  refine c_pdispK (M := M2) [(eS camp)] (fun M3 => [.val ((eL (eT5 eS eS eS eS eI)) ways), .val (eS camp), .val (eS other), .no, .no, .no, .no, .sto M3]) rfl (by first | decide +kernel | exact rfl | simp [keysN, keyOf, eS, eI]) (Nat.le_of_ble_eq_true rfl) rfl (fun _ => by exact rfl) fun M3 => ?_
  walk_at "~frzSP nil"
  refine c_putUK [.val ((eL (eT5 eS eS eS eS eI)) ways), .val (eS camp), .val (eS other), .own (.dct ((mergeL [] r1).map (eP eS eI))), .pv (PV.ref M2.length), .no, .no, .sto M3] rfl ?_
  walk_at "~seqN seq"
  refine c_bef (e2 := [.val ((eL (eT5 eS eS eS eS eI)) ways), .val (eS camp), .val (eS other), .own (.dct ((mergeL [] r1).map (eP eS eI))), .pv (PV.ref M2.length), .no, .no, .sto M3]) rfl ?_
  walk_at "~for itL cb cons lc itK nameO:1"
  refine c_lkO (l := ((mergeL [] r1).map Prod.fst).map eS) rfl (e2 := [.val ((eL (eT5 eS eS eS eS eI)) ways), .val (eS camp), .val (eS other), .val ((eM eS eI) (mergeL [] r1)), .pv (PV.ref M2.length), .no, .no, .sto M3]) rfl mapK ?_
  refine c_lcK (xs := ((mergeL [] r1).map Prod.fst)) (ec := eS) (e1 := [.val ((eL (eT5 eS eS eS eS eI)) ways), .val (eS camp), .val (eS other), .val ((eM eS eI) (mergeL [] r1)), .pv (PV.ref M2.length), .no, .no, .sto M3]) (by exact rfl) ?_
  refine c_cal2 (lc_mapO (s_least_row_l2 (.val ((eL (eT5 eS eS eS eS eI)) ways)) (.val (eS camp)) (.val (eS other)) (mergeL [] r1) (.pv (PV.ref M2.length)) (.sto M3)) _) fun l6 => ?_
  walk_at "~nil"
  refine c_cbK _ rfl ?_
  refine c_cal (x_sortX (e := (eT2 eI eS)) (l := l6)) fun l7 => ?_
  walk_at "~frzN itLK"
  refine c_loop (E := fun sE : (PV × (List MC)) => [.val ((eL (eT5 eS eS eS eS eI)) ways), .val (eS camp), .val (eS other), .val ((eM eS eI) (mergeL [] r1)), .pv sE.1, .no, .no, .sto sE.2]) (forL_P (E := fun sE : (PV × (List MC)) => [.val ((eL (eT5 eS eS eS eS eI)) ways), .val (eS camp), .val (eS other), .val ((eM eS eI) (mergeL [] r1)), .pv sE.1, .no, .no, .sto sE.2]) (ec := (eT2 eI eS)) (s_least_row_b4 ways camp (.val (eS other)) (mergeL [] r1)) _ ((PV.ref M2.length), M3)) fun s13 => ?_
  walk_at "~seqN ret getP1 nameP:1"
  refine c_getP1K (x := s13.1) rfl rfl fun _ => ?_
  walk_at "~nameV:1"
  refine c_getP1E (pk := (PV.dat (eS other))) (by exact rfl) (by exact rfl) fun p14 => ?_
  refine c_retK (.pv p14) rfl (e2 := [.no, .no, .no, .no, .no, .no, .no, .sto s13.2]) rfl ?_
  exact rfl
theorem q_least_row (ways : (List (Str × Str × Str × Str × Int))) (camp : Str) (other : Str) (M0 : List MC) : fmM_least_row M0 [.val ((eL (eT5 eS eS eS eS eI)) ways), .val (eS camp), .val (eS other)] = (P_least_row ways camp other M0).map fun z => (.pv z.1, [.no, .no, .no], z.2) := (fmM_ofG (b_least_row ways camp other M0) (fun _ => rfl) rfl rfl (fun _ => by walk_at "ik") (fun _ => rfl) (fun _ => rfl))
def PS_least_row (ways : (List (Str × Str × Str × Str × Int))) (camp : Str) (other : Str) : Option PyData := (P_least_row ways camp other []).bind fun z => z.1.deep z.2 9
theorem qS_least_row (ways : (List (Str × Str × Str × Str × Int))) (camp : Str) (other : Str) : fm_least_row [.val ((eL (eT5 eS eS eS eS eI)) ways), .val (eS camp), .val (eS other)] = (PS_least_row ways camp other).map fun d => (.dat (eD d), [.no, .no, .no]) := fmSt_of (b_least_row ways camp other []) rfl rfl (fun _ => rfl) (fun _ => rfl) (fun _ => rfl)
def m_w_same_e1 (fm : FM) : ME := (mCallF fm none (mCons (mName 2) (mCons (mName 3) mNil)))
def P_w_same_l2 (pf : PyData → PyData → Option Bool)  (y10 : (PyData × PyData)) : Option Bool :=
  (pf y10.1 y10.2).bind fun r11 =>
  some r11
theorem s_w_same_l2 (fm : FM) (pf : PyData → PyData → Option Bool) (hq : ∀ (found : PyData) (due : PyData), fm [.val (eD found), .val (eD due)] = (pf found due).map fun z => (.dat (eB z), [.no, .no])) (o0 : Slot) (o1 : Slot) (y10 : (PyData × PyData)) : lcStep (mgTup (mgCons (mgName 2) (mgCons (mgName 3) mgNil))) mYes (m_w_same_e1 fm) [2, 3] ((eT2 eD eD) y10) [o0, o1, .no, .no] = (P_w_same_l2 pf  y10).map fun z => (some (eB z), [o0, o1, .no, .no]) := c_stepM (α := Unit) (by
  unfold P_w_same_l2
  walk_at "~gtup gcons"
  refine c_gname (e2 := [o0, o1, .val (eD y10.1), .no]) rfl ?_
  walk_at "~gcons"
  refine c_gname (e2 := [o0, o1, .val (eD y10.1), .val (eD y10.2)]) rfl ?_
  walk_at "~gnil yes iteT bb callF cons nameV:1 cons nameV:1 nil"
  refine c_callK (bk := fun r11 => [o0, o1, .val (eD y10.1), .val (eD y10.2)]) rfl rfl (hq y10.1 y10.2) (fun _ => by walk_at "fl") (fun _ => rfl) fun r11 => ?_
  walk_at "~frzD"
  refine c_elt (e1 := [o0, o1, .no, .no]) rfl ?_
  exact rfl)
def m_w_same (fm : FM) : MS := (mSeq (mIfS (mTest (mIsi2 "list" "tuple" (mName 1))) (mSeq (mIfS (mOr (mTest (mOp (gEq true) (mIsi "list" (mName 0)) (mIsi "list" (mName 1)))) (mTest (mOp (gEq true) (mIsi "tuple" (mName 0)) (mIsi "tuple" (mName 1))))) (mRetW [0, 1, 2, 3] (mC (.bool false))) mSkip)
    (mRetW [0, 1, 2, 3] (mAndV (mOp (gEq false) (mCB gLen (mCons (mName 0) mNil)) (mCB gLen (mCons (mName 1) mNil))) (mCB gAll (mCons (mLc (mZipA (mCons (mFrz (mName 0)) (mCons (mFrz (mName 1)) mNil))) (mgTup (mgCons (mgName 2) (mgCons (mgName 3) mgNil))) mYes (m_w_same_e1 fm) [2, 3]) mNil))))) mSkip)
    (mSeq (mIfS (mOr (mTest (mOp (gIsN false) (mName 1) (mC .none))) (mTest (mOp (gIsN false) (mName 0) (mC .none)))) (mRetW [0, 1, 2, 3] (mAndV (mOp (gIsN false) (mName 1) (mC .none)) (mOp (gIsN false) (mName 0) (mC .none)))) mSkip)
    (mSeq (mIfS (mOr (mTest (mIsi "bool" (mName 1))) (mTest (mIsi "str" (mName 1)))) (mRetW [0, 1, 2, 3] (mAndV (mOp (gEq false) (mIsi "bool" (mName 0)) (mIsi "bool" (mName 1))) (mOp (gEq false) (mName 0) (mName 1)))) mSkip)
    (mRetW [0, 1, 2, 3] (mAndV (mIsi "int" (mName 0)) (mAndV (mNotV (mIsi "bool" (mName 0))) (mOp (gEq false) (mName 0) (mName 1))))))))
def fm_w_same : Nat → FM
  | 0 => fun _ => none
  | n + 1 => fmOf 2 4 (m_w_same (fm_w_same n))
theorem ok_w_same (T : Tx w K mg fd) : ∀ n : Nat, FnOk P w K mg base CX0 (n + 1) (He.ga K "_law_same") (fd 12) ["_law_found", "_law_due"] (spF K (fm_w_same n))
  | 0 => ok_no
  | n + 1 => (FnOk.mono (fn_ok (k := n + 1) T.F_w_same sc_w_same fun cdv A outer s H E hr => (show VSs _ _ (m_w_same (fm_w_same n)) from (vs_cons (vs_if (vt_val (ve_isi2 (ve_name 1) T.b_isinstance T.b_list (by decide +kernel) T.b_tuple (by decide +kernel))) (vs_cons (vs_if (vt_w (vw_or (vt_cmp (or_ne hr.units) od_ne (ve_isi (ve_name 0) T.b_isinstance T.b_list (by decide +kernel)) (ve_isi (ve_name 1) T.b_isinstance T.b_list (by decide +kernel)) (nomark _)) (vw_or1 (vt_cmp (or_ne hr.units) od_ne (ve_isi (ve_name 0) T.b_isinstance T.b_tuple (by decide +kernel)) (ve_isi (ve_name 1) T.b_isinstance T.b_tuple (by decide +kernel)) (nomark _))))) (vs_one (vs_retW ve_bl)) vs_nil)
      (vs_one (vs_retW (ve_and (ve_cmp (or_eq hr.units) od_eq (ve_callB call_len cd_len (by rfl) T.b_len PySem.boot_len (va_cons (ve_name 0) va_nil)) (ve_callB call_len cd_len (by rfl) T.b_len PySem.boot_len (va_cons (ve_name 1) va_nil)) (nomark _)) (ve_one (ve_callB (cr_all rfl) cd_all (by rfl) T.b_all (by decide +kernel) (va_cons (ve_lc (own := [("_law_one", 2), ("_law_other", 3)]) sc_w_same.nd (vi_zipA T.b_zip (va_cons (ve_frz (ve_name 0)) (va_cons (ve_frz (ve_name 1)) va_nil))) (blkOk_by (own := [("_law_one", 2), ("_law_other", 3)]) (N := ["_law_found", "_law_due", "_law_one", "_law_other"]) (sc := defScope s_w_same) (by decide +kernel)) (fun _ _ _ _ _ => (vg_tup (vgs_cons (vg_name (j := 2) sc_w_same.nd) (vgs_cons (vg_name (j := 3) sc_w_same.nd) vgs_nil)) (mgcons_len (mgcons_len mgnil_len)))) (fun _ _ _ _ _ => vts_nil) (fun _ _ _ _ _ => (ve_callF none (ok_w_same T n) hr T.g_w_same T.F_w_same.kp (bi_w_same T) (va_cons (ve_name 2) (va_cons (ve_name 3) va_nil)))) (by decide)) va_nil))))))) vs_nil)
      (vs_cons (vs_if (vt_w (vw_or (vt_cmp op_isN od_isN (ve_name 1) ve_non (nomark _)) (vw_or1 (vt_cmp op_isN od_isN (ve_name 0) ve_non (nomark _))))) (vs_one (vs_retW (ve_and (ve_cmp op_isN od_isN (ve_name 1) ve_non (nomark _)) (ve_one (ve_cmp op_isN od_isN (ve_name 0) ve_non (nomark _)))))) vs_nil)
      (vs_cons (vs_if (vt_w (vw_or (vt_val (ve_isi (ve_name 1) T.b_isinstance T.b_bool (by decide +kernel))) (vw_or1 (vt_val (ve_isi (ve_name 1) T.b_isinstance T.b_str (by decide +kernel)))))) (vs_one (vs_retW (ve_and (ve_cmp (or_eq hr.units) od_eq (ve_isi (ve_name 0) T.b_isinstance T.b_bool (by decide +kernel)) (ve_isi (ve_name 1) T.b_isinstance T.b_bool (by decide +kernel)) (nomark _)) (ve_one (ve_cmp (or_eq hr.units) od_eq (ve_name 0) (ve_name 1) (nomark _)))))) vs_nil)
      (vs_one (vs_retW (ve_and (ve_isi (ve_name 0) T.b_isinstance T.b_int (by decide +kernel)) (ve_and (ve_not (ve_isi (ve_name 0) T.b_isinstance T.b_bool (by decide +kernel))) (ve_one (ve_cmp (or_eq hr.units) od_eq (ve_name 0) (ve_name 1) (nomark _)))))))))))) (by omega))
def P_w_same_0 (pf : PyData → PyData → Option Bool) (found : PyData) (due : PyData) : Option Bool :=
  (pIsi2 "list" "tuple" due).bind fun t1 =>
  if t1 = true then
    (pIsi "list" found).bind fun t2 =>
    (pIsi "list" due).bind fun t3 =>
    (if (!decide (t2 = t3)) = true then
      some true
    else
      (pIsi "tuple" found).bind fun t4 =>
      (pIsi "tuple" due).bind fun t5 =>
      some (!decide (t4 = t5))).bind fun z6 =>
    if z6 = true then
      some false
    else
      (pLenD found).bind fun t7 =>
      (pLenD due).bind fun t8 =>
      (if decide (t7 = t8) = true then
        (pZipA found due).bind fun l9 =>
        (gd (l9.length ≤ 100000)).bind fun _ =>
        (mapO (P_w_same_l2 pf ) l9).bind fun l12 =>
        some (l12.all id)
      else
        some false).bind fun z13 =>
      some z13
  else
    if ((pIsN false due) || (pIsN false found)) = true then
      some ((pIsN false due) && (pIsN false found))
    else
      (pIsi "bool" due).bind fun t14 =>
      (if t14 = true then
        some true
      else
        (pIsi "str" due).bind fun t15 =>
        some t15).bind fun z16 =>
      if z16 = true then
        (pIsi "bool" found).bind fun t17 =>
        (pIsi "bool" due).bind fun t18 =>
        (if decide (t17 = t18) = true then
          (pEqD false found due).bind fun t19 =>
          some t19
        else
          some false).bind fun z20 =>
        some z20
      else
        (pIsi "int" found).bind fun t21 =>
        (if t21 = true then
          (pIsi "bool" found).bind fun t22 =>
          (if (!t22) = true then
            (pEqD false found due).bind fun t23 =>
            some t23
          else
            some false).bind fun z24 =>
          some z24
        else
          some false).bind fun z25 =>
        some z25
def P_w_same : Nat → PyData → PyData → Option Bool
  | 0 => fun _ _ => none
  | n + 1 => P_w_same_0 (P_w_same n)
theorem q_w_same_0 (fm : FM) (pf : PyData → PyData → Option Bool) (hq : ∀ (found : PyData) (due : PyData), fm [.val (eD found), .val (eD due)] = (pf found due).map fun z => (.dat (eB z), [.no, .no])) (found : PyData) (due : PyData) : fmOf 2 4 (m_w_same fm) [.val (eD found), .val (eD due)] = (P_w_same_0 pf found due).map fun z => (.dat (eB z), [.no, .no]) := by
  unfold m_w_same P_w_same_0
  refine c_fm (oR := fun z : Bool => .dat (eB z)) (eR := fun z => [.no, .no, .no, .no]) [.val (eD found), .val (eD due), .no, .no] rfl rfl ?_ (fun _ => rfl) (fun _ => by walk_at "ik") (fun _ => rfl)
  walk_at "~seq ifS test isi2 nameV:1"
  refine c_isi2K rfl fun t1 => ?_
  walk_at "~testK"
  refine c_ite ?_ ?_
  · refine c_seq ?_
    walk_at "~ifS orB test op isi nameV:1"
    refine c_isiK rfl fun t2 => ?_
    walk_at "~isi nameV:1"
    refine c_isiK rfl fun t3 => ?_
    walk_at "~opK:2"
    refine c_pur x_eqB1 ?_
    walk_at "~testK"
    refine c_ifJ (fun z6 => (z6, [.val (eD found), .val (eD due), .no, .no])) ?_ ?_ fun z6 => ?_
    · exact rfl
    · refine c_test ?_
      walk_at "~op isi nameV:1"
      refine c_isiK rfl fun t4 => ?_
      walk_at "~isi nameV:1"
      refine c_isiK rfl fun t5 => ?_
      walk_at "~opK:2"
      refine c_pur x_eqB1 ?_
      walk_at "~testK"
      exact rfl
    refine c_ite ?_ ?_
    · refine c_ret ?_
      walk_at "~c"
      refine c_retK (.dat (eB false)) rfl (e2 := [.no, .no, .no, .no]) rfl ?_
      walk_at "~seqR seqR"
      exact rfl
    · refine c_skip ?_
      walk_at "~seqN ret andV op cb cons nameV:1 nil"
      refine c_cbK _ rfl ?_
      refine c_cal x_lenD fun t7 => ?_
      walk_at "~cb cons nameV:1 nil"
      refine c_cbK _ rfl ?_
      refine c_cal x_lenD fun t8 => ?_
      walk_at "~opK:2"
      refine c_pur x_eqI0 ?_
      walk_at "~boolK"
      refine c_ifJ (fun z13 => (.dat (.bool z13), [.val (eD found), .val (eD due), .no, .no])) ?_ ?_ fun z13 => ?_
      · refine c_cb ?_
        walk_at "~cons lc zipA cons frz nameV:1 frzD cons frz nameV:1 frzD nil"
        refine c_zipAK rfl fun l9 => ?_
        refine c_lcK (xs := l9) (ec := (eT2 eD eD)) (e1 := [.val (eD found), .val (eD due), .no, .no]) (by exact rfl) ?_
        refine c_cal2 (lc_mapO (s_w_same_l2 fm pf hq (.val (eD found)) (.val (eD due))) _) fun l12 => ?_
        walk_at "~nil"
        refine c_cbK _ rfl ?_
        refine c_pur (x_all (l := l12)) ?_
        exact rfl
      · exact rfl
      refine c_retK (.dat (eB z13)) rfl (e2 := [.no, .no, .no, .no]) rfl ?_
      walk_at "~seqR"
      exact rfl
  · refine c_skip ?_
    walk_at "~seqN seq ifS"
    refine c_orP (c_tot (by refine c_test ?_; refine c_op ?_; refine c_nameV rfl ?_; refine c_c ?_; refine c_opK rfl rfl ?_; refine c_pur x_isND ?_; refine c_testK ?_; exact rfl)) (c_tot (by refine c_test ?_; refine c_op ?_; refine c_nameV rfl ?_; refine c_c ?_; refine c_opK rfl rfl ?_; refine c_pur x_isND ?_; refine c_testK ?_; exact rfl)) ?_
    refine c_ite ?_ ?_
    · refine c_ret ?_
      refine c_andVP (c_tot (by refine c_op ?_; refine c_nameV rfl ?_; refine c_c ?_; refine c_opK rfl rfl ?_; refine c_pur x_isND ?_; exact rfl)) (c_tot (by refine c_op ?_; refine c_nameV rfl ?_; refine c_c ?_; refine c_opK rfl rfl ?_; refine c_pur x_isND ?_; exact rfl)) ?_
      refine c_retK (.dat (eB ((pIsN false due) && (pIsN false found)))) rfl (e2 := [.no, .no, .no, .no]) rfl ?_
      walk_at "~seqR"
      exact rfl
    · refine c_skip ?_
      walk_at "~seqN seq ifS orB test isi nameV:1"
      refine c_isiK rfl fun t14 => ?_
      walk_at "~testK"
      refine c_ifJ (fun z16 => (z16, [.val (eD found), .val (eD due), .no, .no])) ?_ ?_ fun z16 => ?_
      · exact rfl
      · refine c_test ?_
        walk_at "~isi nameV:1"
        refine c_isiK rfl fun t15 => ?_
        walk_at "~testK"
        exact rfl
      refine c_ite ?_ ?_
      · refine c_ret ?_
        walk_at "~andV op isi nameV:1"
        refine c_isiK rfl fun t17 => ?_
        walk_at "~isi nameV:1"
        refine c_isiK rfl fun t18 => ?_
        walk_at "~opK:2"
        refine c_pur x_eqB0 ?_
        walk_at "~boolK"
        refine c_ifJ (fun z20 => (.dat (.bool z20), [.val (eD found), .val (eD due), .no, .no])) ?_ ?_ fun z20 => ?_
        · refine c_op ?_
          walk_at "~nameV:1 nameV:1 opK:2"
          refine c_cal x_eqD fun t19 => ?_
          exact rfl
        · exact rfl
        refine c_retK (.dat (eB z20)) rfl (e2 := [.no, .no, .no, .no]) rfl ?_
        walk_at "~seqR"
        exact rfl
      · refine c_skip ?_
        walk_at "~seqN ret andV isi nameV:1"
        refine c_isiK rfl fun t21 => ?_
        walk_at "~boolK"
        refine c_ifJ (fun z25 => (.dat (.bool z25), [.val (eD found), .val (eD due), .no, .no])) ?_ ?_ fun z25 => ?_
        · refine c_andV ?_
          walk_at "~notV isi nameV:1"
          refine c_isiK rfl fun t22 => ?_
          walk_at "~boolK boolK"
          refine c_ifJ (fun z24 => (.dat (.bool z24), [.val (eD found), .val (eD due), .no, .no])) ?_ ?_ fun z24 => ?_
          · refine c_op ?_
            walk_at "~nameV:1 nameV:1 opK:2"
            refine c_cal x_eqD fun t23 => ?_
            exact rfl
          · exact rfl
          exact rfl
        · exact rfl
        refine c_retK (.dat (eB z25)) rfl (e2 := [.no, .no, .no, .no]) rfl ?_
        exact rfl
theorem q_w_same : ∀ (n : Nat) (found : PyData) (due : PyData), fm_w_same n [.val (eD found), .val (eD due)] = (P_w_same n found due).map fun z => (.dat (eB z), [.no, .no])
  | 0, _, _ => rfl
  | n + 1, found, due => q_w_same_0 (fm_w_same n) (P_w_same n) (fun found due => q_w_same n found due) found due
def m_w_walked_e1 : ME := (mTup (mCons (mFrz (mOp gIx (mName 6) (mC (.int 0)))) (mCons (mFrz (mName 6)) mNil)))
theorem s_w_walked_l2 (o0 : Slot) (o1 : Slot) (o2 : Slot) (y1 : (Str × Str × Str × Str × Int)) : lcStep (mgName 6) mYes m_w_walked_e1 [6] ((eT5 eS eS eS eS eI) y1) [o0, o1, o2, .no, .no, .no, .no] = some (some ((eT2 eS (eT5 eS eS eS eS eI)) (y1.1, y1)), [o0, o1, o2, .no, .no, .no, .no]) := c_step (by refine c_gname (e2 := [o0, o1, o2, .no, .no, .no, .val ((eT5 eS eS eS eS eI) y1)]) rfl ?_; refine c_yes ?_; refine c_iteT ?_; refine c_bb ?_; refine c_tup ?_; refine c_cons ?_; refine c_frz ?_; refine c_op ?_; refine c_nameV rfl ?_; refine c_c ?_; refine c_opK rfl rfl ?_; refine c_pur (x_ixT rfl) ?_; refine c_frzD ?_; refine c_cons ?_; refine c_frz ?_; refine c_nameV rfl ?_; refine c_frzD ?_; refine c_nil ?_; refine c_tupK _ rfl (Nat.le_of_ble_eq_true rfl) ?_; refine c_frzD ?_; refine c_elt (e1 := [o0, o1, o2, .no, .no, .no, .no]) rfl ?_; exact rfl)
def m_w_walked_b3 : MS := (mAft [5] (mSeq (mIfS (mOr (mTest (mOp (gDIn true) (mTyE (fun d => (decS.f d).isSome) (mName 5)) (mName 3))) (mTest (mOp (gIn true) (mName 1) (mSl gSlT (mOp gDGet (mName 3) (mTyE (fun d => (decS.f d).isSome) (mName 5))) (mPart (mC (.int 1))) (mPart (mC (.int 3))))))) (mRetW [0, 1, 2, 3, 4, 5, 6] (mC .none)) mSkip)
    (mSeq (mSet 1 (mFrz (mIf (mTest (mOp (gEq false) (mOp gIx (mOp gDGet (mName 3) (mTyE (fun d => (decS.f d).isSome) (mName 5))) (mC (.int 1))) (mName 1))) (mOp gIx (mOp gDGet (mName 3) (mTyE (fun d => (decS.f d).isSome) (mName 5))) (mC (.int 2))) (mOp gIx (mOp gDGet (mName 3) (mTyE (fun d => (decS.f d).isSome) (mName 5))) (mC (.int 1))))))
    (mSet 4 (mFrz (mOp gAdd (mName 4) (mOp gIx (mOp gDGet (mName 3) (mTyE (fun d => (decS.f d).isSome) (mName 5))) (mC (.int 4)))))))))
def P_w_walked_b4 (named : (List (Str × (Str × Str × Str × Str × Int)))) (xx : PyData) (ss : (Str × Int)) : Option (Fw (Option (Str × Int)) (Str × Int)) :=
  (decS.f xx).bind fun v3 =>
  (if (!(look named v3).isSome) = true then
    some true
  else
    (decS.f xx).bind fun v4 =>
    (look named v4).bind fun t5 =>
    some (!decide (ss.1 ∈ [(t5.2.1, t5.2.2.1).1, (t5.2.1, t5.2.2.1).2]))).bind fun z6 =>
  if z6 = true then
    some (.rt (none : (Option (Str × Int))))
  else
    (decS.f xx).bind fun v7 =>
    (look named v7).bind fun t8 =>
    (if decide (t8.2.1 = ss.1) = true then
      (decS.f xx).bind fun v9 =>
      (look named v9).bind fun t10 =>
      some t10.2.2.1
    else
      (decS.f xx).bind fun v11 =>
      (look named v11).bind fun t12 =>
      some t12.2.1).bind fun z13 =>
    (decS.f xx).bind fun v14 =>
    (look named v14).bind fun t15 =>
    (some (ss.2 + t15.2.2.2.2)).bind fun whole16 =>
    some (.nx (z13, whole16))
theorem s_w_walked_b4 (o0 : Slot) (o2 : Slot) (named : (List (Str × (Str × Str × Str × Str × Int)))) (xx : PyData) (ss : (Str × Int)) : ((mgName 5) (eD xx) [o0, .val (eS ss.1), o2, .own (.dct (named.map (eP eS (eT5 eS eS eS eS eI)))), .val (eI ss.2), .no, .no]).bind m_w_walked_b3 = (P_w_walked_b4 named xx ss).map (outB (fun z : (Option (Str × Int)) => .dat ((eO (eT2 eS eI)) z)) (fun z => [.no, .no, .no, .no, .no, .no, .no]) (fun ss : (Str × Int) => [o0, .val (eS ss.1), o2, .own (.dct (named.map (eP eS (eT5 eS eS eS eS eI)))), .val (eI ss.2), .no, .no])) := c_body (by
  unfold P_w_walked_b4 m_w_walked_b3
  refine c_gname (e2 := [o0, .val (eS ss.1), o2, .own (.dct (named.map (eP eS (eT5 eS eS eS eS eI)))), .val (eI ss.2), .val (eD xx), .no]) rfl ?_
  walk_at "~aft seq ifS orB test op tyE nameV:1"
  refine c_tyEK decS fun v3 => ?_
  walk_at "~nameO:1 opK:2"
  refine c_pur (x_din1 keyE_str) ?_
  walk_at "~testK"
  refine c_ifJ (fun z6 => (z6, [o0, .val (eS ss.1), o2, .own (.dct (named.map (eP eS (eT5 eS eS eS eS eI)))), .val (eI ss.2), .val (eD xx), .no])) ?_ ?_ fun z6 => ?_
  · exact rfl
  · refine c_test ?_
    walk_at "~op nameV:1 sl op nameO:1 tyE nameV:1"
    refine c_tyEK decS fun v4 => ?_
    walk_at "~opK:2"
    refine c_cal (x_dget (ev := (eT5 eS eS eS eS eI)) (l := named) keyE_str) fun t5 => ?_
    walk_at "~part c partK part c partK"
    refine c_slK _ rfl ?_
    refine c_pur (v := .dat ((eT2 eS eS) (t5.2.1, t5.2.2.1))) rfl ?_
    walk_at "~opK:2"
    refine c_pur (x_inSV1 (l := [(t5.2.1, t5.2.2.1).1, (t5.2.1, t5.2.2.1).2])) ?_
    walk_at "~testK"
    exact rfl
  refine c_ite ?_ ?_
  · refine c_ret ?_
    walk_at "~c"
    refine c_retK (.dat ((eO (eT2 eS eI)) (none : (Option (Str × Int))))) rfl (e2 := [.no, .no, .no, .no, .no, .no, .no]) rfl ?_
    walk_at "~seqR aftR"
    exact rfl
  · refine c_skip ?_
    walk_at "~seqN seq set frz if test op op op nameO:1 tyE nameV:1"
    refine c_tyEK decS fun v7 => ?_
    walk_at "~opK:2"
    refine c_cal (x_dget (ev := (eT5 eS eS eS eS eI)) (l := named) keyE_str) fun t8 => ?_
    walk_at "~c opK:2"
    refine c_pur (x_ixT rfl) ?_
    walk_at "~nameV:1 opK:2"
    refine c_pur x_eqS0 ?_
    walk_at "~testK"
    refine c_ifJ (fun z13 => (.dat (eS z13), [o0, .val (eS ss.1), o2, .own (.dct (named.map (eP eS (eT5 eS eS eS eS eI)))), .val (eI ss.2), .val (eD xx), .no])) ?_ ?_ fun z13 => ?_
    · refine c_op ?_
      walk_at "~op nameO:1 tyE nameV:1"
      refine c_tyEK decS fun v9 => ?_
      walk_at "~opK:2"
      refine c_cal (x_dget (ev := (eT5 eS eS eS eS eI)) (l := named) keyE_str) fun t10 => ?_
      walk_at "~c opK:2"
      refine c_pur (x_ixT rfl) ?_
      exact rfl
    · refine c_op ?_
      walk_at "~op nameO:1 tyE nameV:1"
      refine c_tyEK decS fun v11 => ?_
      walk_at "~opK:2"
      refine c_cal (x_dget (ev := (eT5 eS eS eS eS eI)) (l := named) keyE_str) fun t12 => ?_
      walk_at "~c opK:2"
      refine c_pur (x_ixT rfl) ?_
      exact rfl
    walk_at "~frzD"
    refine c_setD (e2 := [o0, .val (eS z13), o2, .own (.dct (named.map (eP eS (eT5 eS eS eS eS eI)))), .val (eI ss.2), .val (eD xx), .no]) rfl ?_
    walk_at "~seqN set frz op nameV:1 op op nameO:1 tyE nameV:1"
    refine c_tyEK decS fun v14 => ?_
    walk_at "~opK:2"
    refine c_cal (x_dget (ev := (eT5 eS eS eS eS eI)) (l := named) keyE_str) fun t15 => ?_
    walk_at "~c opK:2"
    refine c_pur (x_ixT rfl) ?_
    walk_at "~opK:2"
    refine c_pur x_add ?_
    walk_at "~frzD"
    refine c_setDL (τ := Int) eI (ss.2 + t15.2.2.2.2) (fun whole16 => [o0, .val (eS z13), o2, .own (.dct (named.map (eP eS (eT5 eS eS eS eS eI)))), .val (eI whole16), .val (eD xx), .no]) (fun _ => rfl) fun whole16 => ?_
    refine c_aftN (e2 := [o0, .val (eS z13), o2, .own (.dct (named.map (eP eS (eT5 eS eS eS eS eI)))), .val (eI whole16), .no, .no]) rfl ?_
    exact rfl)
def m_w_walked : MS := (mSeq (mPutU [3, 4] (mConsU (mCB gDict (mCons (mLc (mItL (mName 0)) (mgName 6) mYes m_w_walked_e1 [6]) mNil)) (mConsU (mFrz (mC (.int 0))) mNil)))
    (mSeq (mBef [5] (mFor (mItD (mName 2)) (mgName 5) m_w_walked_b3))
    (mRetW [0, 1, 2, 3, 4, 5, 6] (mTup (mCons (mFrz (mName 1)) (mCons (mFrz (mName 4)) mNil))))))
def fm_w_walked : FM := fmOf 3 7 m_w_walked
theorem ok_w_walked (T : Tx w K mg fd) : FnOk P w K mg base CX0 1 (He.ga K "_law_walked") (fd 13) ["_law_ways_here", "_law_camp", "_law_row"] (spF K fm_w_walked) :=
  fn_ok T.F_w_walked sc_w_walked fun cdv A outer s H E hr => (show VSs _ _ m_w_walked from (vs_cons (vs_par (i := 3) (j := 4) sc_w_walked.nd (vau_cons (ve_callTy (call_dictP rfl) cd_dict (by rfl) T.b_dict (by decide +kernel) (va_cons (ve_lc (own := [("_law_way", 6)]) sc_w_walked.nd (vi_list (ve_name 0)) (blkOk_by (own := [("_law_way", 6)]) (N := ["_law_ways_here", "_law_camp", "_law_row", "_law_named", "_law_whole", "_law_name", "_law_way"]) (sc := defScope s_w_walked) (by decide +kernel)) (fun _ _ _ _ _ => (vg_name (j := 6) sc_w_walked.nd)) (fun _ _ _ _ _ => vts_nil) (fun _ _ _ _ _ => (ve_tup (va_cons (ve_frz (ve_ix ix_seq od_ix (ve_name 6) ve_int (fun _ _ => rfl))) (va_cons (ve_frz (ve_name 6)) va_nil)))) (by decide)) va_nil)) (vau_cons (ve_frz ve_int) vau_nil)))
      (vs_cons (vs_bef (ws := [5]) (vs_for PassesOwn.never (vi_dyn (ve_name 2)) (vg_name (j := 5) sc_w_walked.nd) (vs_aft (ws := [5]) (vs_cons (vs_if (vt_w (vw_or (vt_cmp (op_dnin hr.units) (od_din (neg := true)) (ve_tyE (ve_name 5)) (ve_name 3) (by rfl)) (vw_or1 (vt_cmp op_notIn_seq (od_in (neg := true)) (ve_name 1) (ve_slice sl_tupA sd_tup (ve_dget hr.units (ve_name 3) (ve_tyE (ve_name 5)) (fun _ _ => rfl)) (vo_some ve_int) (vo_some ve_int)) (by rfl))))) (vs_one (vs_retW ve_non)) vs_nil)
      (vs_cons (vs_set (i := 1) sc_w_walked.nd (ve_frz (ve_if (vt_cmp (or_eq hr.units) od_eq (ve_ix ix_seq od_ix (ve_dget hr.units (ve_name 3) (ve_tyE (ve_name 5)) (fun _ _ => rfl)) ve_int (fun _ _ => rfl)) (ve_name 1) (nomark _)) (ve_ix ix_seq od_ix (ve_dget hr.units (ve_name 3) (ve_tyE (ve_name 5)) (fun _ _ => rfl)) ve_int (fun _ _ => rfl)) (ve_ix ix_seq od_ix (ve_dget hr.units (ve_name 3) (ve_tyE (ve_name 5)) (fun _ _ => rfl)) ve_int (fun _ _ => rfl)))))
      (vs_one (vs_set (i := 4) sc_w_walked.nd (ve_frz (ve_op or_add od_add (ve_name 4) (ve_ix ix_seq od_ix (ve_dget hr.units (ve_name 3) (ve_tyE (ve_name 5)) (fun _ _ => rfl)) ve_int (fun _ _ => rfl)))))))))))
      (vs_one (vs_retW (ve_tup (va_cons (ve_frz (ve_name 1)) (va_cons (ve_frz (ve_name 4)) va_nil))))))))
def P_w_walked (ways : (List (Str × Str × Str × Str × Int))) (camp : Str) (row : PyData) : Option (Option (Str × Int)) :=
  (gd (ways.length ≤ 100000)).bind fun _ =>
  (pItD row).bind fun l2 =>
  (forR (P_w_walked_b4 (mergeL [] (ways.map fun (y1 : (Str × Str × Str × Str × Int)) => (y1.1, y1)))) l2 (camp, 0)).bind fun w18 => w18.on (fun z => some z) fun s17 =>
    some (some (s17.1, s17.2))
theorem q_w_walked (ways : (List (Str × Str × Str × Str × Int))) (camp : Str) (row : PyData) : fm_w_walked [.val ((eL (eT5 eS eS eS eS eI)) ways), .val (eS camp), .val (eD row)] = (P_w_walked ways camp row).map fun z => (.dat ((eO (eT2 eS eI)) z), [.no, .no, .no]) := by
  unfold fm_w_walked m_w_walked P_w_walked
  refine c_fm (oR := fun z : (Option (Str × Int)) => .dat ((eO (eT2 eS eI)) z)) (eR := fun z => [.no, .no, .no, .no, .no, .no, .no]) [.val ((eL (eT5 eS eS eS eS eI)) ways), .val (eS camp), .val (eD row), .no, .no, .no, .no] rfl rfl ?_ (fun _ => rfl) (fun _ => by walk_at "ik") (fun _ => rfl)
  walk_at "~seq putU consU cb cons lc itL nameV:1 frzD itLK"
  refine c_lcK (xs := ways) (ec := (eT5 eS eS eS eS eI)) (e1 := [.val ((eL (eT5 eS eS eS eS eI)) ways), .val (eS camp), .val (eD row), .no, .no, .no, .no]) (by exact rfl) ?_
  refine c_pur2 (lc_all (f := fun y1 => (y1.1, y1)) (s_w_walked_l2 (.val ((eL (eT5 eS eS eS eS eI)) ways)) (.val (eS camp)) (.val (eD row))) _) ?_
  walk_at "~nil"
  refine c_cbK _ rfl ?_
  refine c_pur (x_dict (ev := (eT5 eS eS eS eS eI)) (l := (ways.map fun (y1 : (Str × Str × Str × Str × Int)) => (y1.1, y1))) keyE_str) ?_
  walk_at "~frzSN consU frz c frzD frzSD nil"
  refine c_putUK [.val ((eL (eT5 eS eS eS eS eI)) ways), .val (eS camp), .val (eD row), .own (.dct ((mergeL [] (ways.map fun (y1 : (Str × Str × Str × Str × Int)) => (y1.1, y1))).map (eP eS (eT5 eS eS eS eS eI)))), .val (eI 0), .no, .no] rfl ?_
  walk_at "~seqN seq"
  refine c_bef (e2 := [.val ((eL (eT5 eS eS eS eS eI)) ways), .val (eS camp), .val (eD row), .own (.dct ((mergeL [] (ways.map fun (y1 : (Str × Str × Str × Str × Int)) => (y1.1, y1))).map (eP eS (eT5 eS eS eS eS eI)))), .val (eI 0), .no, .no]) rfl ?_
  walk_at "~for itD nameV:1 frzD"
  refine c_itDK fun l2 => ?_
  refine c_loopR (E := fun sE : (Str × Int) => [.val ((eL (eT5 eS eS eS eS eI)) ways), .val (eS sE.1), .val (eD row), .own (.dct ((mergeL [] (ways.map fun (y1 : (Str × Str × Str × Str × Int)) => (y1.1, y1))).map (eP eS (eT5 eS eS eS eS eI)))), .val (eI sE.2), .no, .no]) (oR := fun z : (Option (Str × Int)) => .dat ((eO (eT2 eS eI)) z)) (eR := fun z => [.no, .no, .no, .no, .no, .no, .no]) (forL_R (E := fun sE : (Str × Int) => [.val ((eL (eT5 eS eS eS eS eI)) ways), .val (eS sE.1), .val (eD row), .own (.dct ((mergeL [] (ways.map fun (y1 : (Str × Str × Str × Str × Int)) => (y1.1, y1))).map (eP eS (eT5 eS eS eS eS eI)))), .val (eI sE.2), .no, .no]) (oR := fun z : (Option (Str × Int)) => .dat ((eO (eT2 eS eI)) z)) (eR := fun z => [.no, .no, .no, .no, .no, .no, .no]) (ec := eD) (s_w_walked_b4 (.val ((eL (eT5 eS eS eS eS eI)) ways)) (.val (eD row)) (mergeL [] (ways.map fun (y1 : (Str × Str × Str × Str × Int)) => (y1.1, y1)))) _ (camp, 0)) (fun z => ?_) (fun s17 => ?_)
  · refine c_seqR ?_
    exact rfl
  · refine c_seqN ?_
    walk_at "~ret tup cons frz nameV:1 frzD cons frz nameV:1 frzD nil"
    refine c_tupK _ rfl (Nat.le_of_ble_eq_true rfl) ?_
    refine c_retK (.dat ((eO (eT2 eS eI)) (some (s17.1, s17.2)))) rfl (e2 := [.no, .no, .no, .no, .no, .no, .no]) rfl ?_
    exact rfl
def m_law_b1 : MS := (mTurn (mAft [13, 14] (mSeq (mSet 14 (mCallM fmM_least_row none (mCons (mFrz (mName 4)) (mCons (mFrz (mName 8)) (mCons (mFrz (mName 11)) mNil)))))
    (mSeq (mIfS (mLendKT (mNot (mTest (mCallF (fm_w_same 9) none (mCons (mTyE (fun d => (decD.f d).isSome) (mKn (mName 14))) (mCons (mName 12) mNil)))))) (mRetW [0, 1, 2, 3, 4, 5, 6, 7, 8, 9, 10, 11, 12, 13, 14, 15] (mC (.bool false))) mSkip)
    (mSeq (mIfS (mLendKT (mTest (mIsNP false (mName 14)))) mCont mSkip)
    (mSeq (mIfS (mLendKT (mTest (mOp (gEq true) (mCallV fm_w_walked none (mCons (mFrz (mName 4)) (mCons (mFrz (mName 8)) (mCons (mFrz (mTyE (fun d => (decD.f d).isSome) (mKn (mName 14)))) mNil)))) (mTup (mCons (mFrz (mName 11)) (mCons (mFrz (mOp gDGet (mName 10) (mName 11))) mNil)))))) (mRetW [0, 1, 2, 3, 4, 5, 6, 7, 8, 9, 10, 11, 12, 13, 14, 15] (mC (.bool false))) mSkip)
    (mDrop (mPM gAppP (mName 14) (mCons (mC (.str "more")) mNil)))))))))
def P_law_b2 (ways : (List (Str × Str × Str × Str × Int))) (camp : Str) (heights : (List (Str × Int))) (other : Str) (due : (Option (List Str))) (xx : Int) (ss : (List MC)) : Option (Fw Bool (List MC)) :=
  (P_least_row ways camp other ss).bind fun r14 =>
  (PV.deep r14.2 9 r14.1).bind fun d17 =>
  (decD.f d17).bind fun v18 =>
  (P_w_same 9 v18 ((eO (eL eS)) due)).bind fun r19 =>
  if (!r19) = true then
    some (.rt false)
  else
    if (PV.isN r14.1) = true then
      some (.nx r14.2)
    else
      (PV.deep r14.2 9 r14.1).bind fun d24 =>
      (decD.f d24).bind fun v25 =>
      (P_w_walked ways camp v25).bind fun r26 =>
      (look heights other).bind fun t27 =>
      (pEqD true ((eO (eT2 eS eI)) r26) ((eT2 eS eI) (other, t27))).bind fun t28 =>
      if t28 = true then
        some (.rt false)
      else
        (gd (isLP r14.2 r14.1 = true)).bind fun _ =>
        (gAppP r14.2 r14.1 [.dat (eS ("more" : Str))]).bind fun z29 =>
        some (.nx z29.2)
theorem s_law_b2 (o0 : Slot) (o1 : Slot) (o2 : Slot) (o3 : Slot) (ways : (List (Str × Str × Str × Str × Int))) (o5 : Slot) (o6 : Slot) (o7 : Slot) (camp : Str) (o9 : Slot) (heights : (List (Str × Int))) (other : Str) (due : (Option (List Str))) (xx : Int) (ss : (List MC)) : ((mgName 13) (eI xx) [o0, o1, o2, o3, .val ((eL (eT5 eS eS eS eS eI)) ways), o5, o6, o7, .val (eS camp), o9, .own (.dct (heights.map (eP eS eI))), .val (eS other), .val ((eO (eL eS)) due), .no, .no, .sto ss]).bind m_law_b1 = (P_law_b2 ways camp heights other due xx ss).map (outB (fun z : Bool => .dat (eB z)) (fun z => [.no, .no, .no, .no, .no, .no, .no, .no, .no, .no, .no, .no, .no, .no, .no, .no]) (fun ss : (List MC) => [o0, o1, o2, o3, .val ((eL (eT5 eS eS eS eS eI)) ways), o5, o6, o7, .val (eS camp), o9, .own (.dct (heights.map (eP eS eI))), .val (eS other), .val ((eO (eL eS)) due), .no, .no, .sto ss])) := c_body (by
  unfold P_law_b2 m_law_b1
  refine c_gname (e2 := [o0, o1, o2, o3, .val ((eL (eT5 eS eS eS eS eI)) ways), o5, o6, o7, .val (eS camp), o9, .own (.dct (heights.map (eP eS eI))), .val (eS other), .val ((eO (eL eS)) due), .val (eI xx), .no, .sto ss]) rfl ?_
  walk_at "~turn aft seq set callM cons frz nameV:1 frzD cons frz nameV:1 frzD cons frz nameV:1 frzD nil"
  refine c_callMK (bk := fun r14 => [o0, o1, o2, o3, .val ((eL (eT5 eS eS eS eS eI)) ways), o5, o6, o7, .val (eS camp), o9, .own (.dct (heights.map (eP eS eI))), .val (eS other), .val ((eO (eL eS)) due), .val (eI xx), .no, .sto r14.2]) rfl rfl (q_least_row ways camp other ss) (fun _ => by exact rfl) fun r14 => ?_
  refine c_setP (e2 := [o0, o1, o2, o3, .val ((eL (eT5 eS eS eS eS eI)) ways), o5, o6, o7, .val (eS camp), o9, .own (.dct (heights.map (eP eS eI))), .val (eS other), .val ((eO (eL eS)) due), .val (eI xx), .pv r14.1, .sto r14.2]) rfl ?_
  walk_at "~seqN seq ifS"
  refine c_lendXT (M := r14.2) rfl fun L15 hl16 => ?_
  refine c_lendX2 (e2 := [lentSlotK L15 o0, lentSlotK L15 o1, lentSlotK L15 o2, lentSlotK L15 o3, .val ((eL (eT5 eS eS eS eS eI)) ways), lentSlotK L15 o5, lentSlotK L15 o6, lentSlotK L15 o7, .val (eS camp), lentSlotK L15 o9, .val ((eM eS eI) heights), .val (eS other), .val ((eO (eL eS)) due), .val (eI xx), .pv r14.1, .sto L15]) rfl ?_
  walk_at "~notB test callF cons tyE kn nameP:1"
  refine c_knL hl16 rfl rfl fun d17 => ?_
  refine c_tyEK decD fun v18 => ?_
  walk_at "~cons nameV:1 nil"
  refine c_callK (bk := fun r19 => [lentSlotK L15 o0, lentSlotK L15 o1, lentSlotK L15 o2, lentSlotK L15 o3, .val ((eL (eT5 eS eS eS eS eI)) ways), lentSlotK L15 o5, lentSlotK L15 o6, lentSlotK L15 o7, .val (eS camp), lentSlotK L15 o9, .val ((eM eS eI) heights), .val (eS other), .val ((eO (eL eS)) due), .val (eI xx), .pv r14.1, .sto L15]) rfl rfl (q_w_same 9 v18 ((eO (eL eS)) due)) (fun _ => by walk_at "fl") (fun _ => rfl) fun r19 => ?_
  walk_at "~testK"
  refine c_ite ?_ ?_
  · refine c_ret ?_
    walk_at "~c"
    refine c_retK (.dat (eB false)) rfl (e2 := [.no, .no, .no, .no, .no, .no, .no, .no, .no, .no, .no, .no, .no, .no, .no, .no]) (by simp only [Cm.wipeS, List.set_cons_succ, List.set_cons_zero]) ?_
    walk_at "~seqR aftR"
    exact rfl
  · refine c_skip ?_
    walk_at "~seqN seq ifS"
    refine c_lendXT (M := r14.2) rfl fun L20 hl21 => ?_
    refine c_lendX2 (e2 := [lentSlotK L20 o0, lentSlotK L20 o1, lentSlotK L20 o2, lentSlotK L20 o3, .val ((eL (eT5 eS eS eS eS eI)) ways), lentSlotK L20 o5, lentSlotK L20 o6, lentSlotK L20 o7, .val (eS camp), lentSlotK L20 o9, .val ((eM eS eI) heights), .val (eS other), .val ((eO (eL eS)) due), .val (eI xx), .pv r14.1, .sto L20]) rfl ?_
    walk_at "~test isNP nameP:1 isNPK:1 testK"
    refine c_ite ?_ ?_
    · refine c_ctn ?_
      walk_at "~seqC"
      refine c_aftC (e2 := [o0, o1, o2, o3, .val ((eL (eT5 eS eS eS eS eI)) ways), o5, o6, o7, .val (eS camp), o9, .own (.dct (heights.map (eP eS eI))), .val (eS other), .val ((eO (eL eS)) due), .no, .no, .sto r14.2]) rfl ?_
      exact rfl
    · refine c_skip ?_
      walk_at "~seqN seq ifS"
      refine c_lendXT (M := r14.2) rfl fun L22 hl23 => ?_
      refine c_lendX2 (e2 := [lentSlotK L22 o0, lentSlotK L22 o1, lentSlotK L22 o2, lentSlotK L22 o3, .val ((eL (eT5 eS eS eS eS eI)) ways), lentSlotK L22 o5, lentSlotK L22 o6, lentSlotK L22 o7, .val (eS camp), lentSlotK L22 o9, .val ((eM eS eI) heights), .val (eS other), .val ((eO (eL eS)) due), .val (eI xx), .pv r14.1, .sto L22]) rfl ?_
      walk_at "~test op callV cons frz nameV:1 frzD cons frz nameV:1 frzD cons frz tyE kn nameP:1"
      refine c_knL hl23 rfl rfl fun d24 => ?_
      refine c_tyEK decD fun v25 => ?_
      walk_at "~frzD nil"
      refine c_callVK (bk := fun r26 => [lentSlotK L22 o0, lentSlotK L22 o1, lentSlotK L22 o2, lentSlotK L22 o3, .val ((eL (eT5 eS eS eS eS eI)) ways), lentSlotK L22 o5, lentSlotK L22 o6, lentSlotK L22 o7, .val (eS camp), lentSlotK L22 o9, .val ((eM eS eI) heights), .val (eS other), .val ((eO (eL eS)) due), .val (eI xx), .pv r14.1, .sto L22]) rfl (q_w_walked ways camp v25) (fun _ => rfl) fun r26 => ?_
      walk_at "~tup cons frz nameV:1 frzD cons frz op nameV:1 nameV:1 opK:2"
      refine c_cal (x_dget (ev := eI) (l := heights) keyE_str) fun t27 => ?_
      walk_at "~frzD nil"
      refine c_tupK _ rfl (Nat.le_of_ble_eq_true rfl) ?_
      walk_at "~opK:2"
      refine c_cal x_eqD fun t28 => ?_
      walk_at "~testK"
      refine c_ite ?_ ?_
      · refine c_ret ?_
        walk_at "~c"
        refine c_retK (.dat (eB false)) rfl (e2 := [.no, .no, .no, .no, .no, .no, .no, .no, .no, .no, .no, .no, .no, .no, .no, .no]) (by simp only [Cm.wipeS, List.set_cons_succ, List.set_cons_zero]) ?_
        walk_at "~seqR aftR"
        exact rfl
      · refine c_skip ?_
        walk_at "~seqN drop pm nameP:1"
        refine c_pmK0 (x := r14.1) rfl rfl fun _ => ?_
        walk_at "~cons c nil"
        refine c_pmK [.dat (eS ("more" : Str))] (fun M_ => [o0, o1, o2, o3, .val ((eL (eT5 eS eS eS eS eI)) ways), o5, o6, o7, .val (eS camp), o9, .own (.dct (heights.map (eP eS eI))), .val (eS other), .val ((eO (eL eS)) due), .val (eI xx), .pv r14.1, .sto M_]) rfl rfl (fun _ => rfl) fun z29 => ?_
        refine c_aftN (e2 := [o0, o1, o2, o3, .val ((eL (eT5 eS eS eS eS eI)) ways), o5, o6, o7, .val (eS camp), o9, .own (.dct (heights.map (eP eS eI))), .val (eS other), .val ((eO (eL eS)) due), .no, .no, .sto z29.2]) rfl ?_
        exact rfl)
def m_law_b3 : MS := (mAft [11, 12, 13, 14] (mSeq (mSet 12 (mFrz (mIf (mTest (mOp (gDIn false) (mName 11) (mName 9))) (mOp gIx (mOp gDGet (mName 9) (mName 11)) (mC (.int 1))) (mC .none))))
    (mBef [13, 14] (mFor (mRange1 (mCons (mC (.int 2)) mNil)) (mgName 13) m_law_b1))))
def P_law_b4 (ways : (List (Str × Str × Str × Str × Int))) (camp : Str) (rows : (List (Str × (Int × (List Str))))) (heights : (List (Str × Int))) (xx : Str) (ss : (List MC)) : Option (Fw Bool (List MC)) :=
  (if (look rows xx).isSome = true then
    (look rows xx).bind fun t11 =>
    some (some t11.2)
  else
    some (none : (Option (List Str)))).bind fun z12 =>
  (pRng 2).bind fun l13 =>
  (forR (P_law_b2 ways camp heights xx z12) l13 ss).bind fun w31 => w31.on (fun z => some (.rt z)) fun s30 =>
    some (.nx s30)
theorem s_law_b4 (o0 : Slot) (o1 : Slot) (o2 : Slot) (o3 : Slot) (ways : (List (Str × Str × Str × Str × Int))) (o5 : Slot) (o6 : Slot) (o7 : Slot) (camp : Str) (rows : (List (Str × (Int × (List Str))))) (heights : (List (Str × Int))) (xx : Str) (ss : (List MC)) : ((mgName 11) (eS xx) [o0, o1, o2, o3, .val ((eL (eT5 eS eS eS eS eI)) ways), o5, o6, o7, .val (eS camp), .own (.dct (rows.map (eP eS (eT2 eI (eL eS))))), .own (.dct (heights.map (eP eS eI))), .no, .no, .no, .no, .sto ss]).bind m_law_b3 = (P_law_b4 ways camp rows heights xx ss).map (outB (fun z : Bool => .dat (eB z)) (fun z => [.no, .no, .no, .no, .no, .no, .no, .no, .no, .no, .no, .no, .no, .no, .no, .no]) (fun ss : (List MC) => [o0, o1, o2, o3, .val ((eL (eT5 eS eS eS eS eI)) ways), o5, o6, o7, .val (eS camp), .own (.dct (rows.map (eP eS (eT2 eI (eL eS))))), .own (.dct (heights.map (eP eS eI))), .no, .no, .no, .no, .sto ss])) := c_body (by
  unfold P_law_b4 m_law_b3
  refine c_gname (e2 := [o0, o1, o2, o3, .val ((eL (eT5 eS eS eS eS eI)) ways), o5, o6, o7, .val (eS camp), .own (.dct (rows.map (eP eS (eT2 eI (eL eS))))), .own (.dct (heights.map (eP eS eI))), .val (eS xx), .no, .no, .no, .sto ss]) rfl ?_
  walk_at "~aft seq set frz if test op nameV:1 nameO:1 opK:2"
  refine c_pur (x_din0 keyE_str) ?_
  walk_at "~testK"
  refine c_ifJ (fun z12 => (.dat ((eO (eL eS)) z12), [o0, o1, o2, o3, .val ((eL (eT5 eS eS eS eS eI)) ways), o5, o6, o7, .val (eS camp), .own (.dct (rows.map (eP eS (eT2 eI (eL eS))))), .own (.dct (heights.map (eP eS eI))), .val (eS xx), .no, .no, .no, .sto ss])) ?_ ?_ fun z12 => ?_
  · refine c_op ?_
    walk_at "~op nameO:1 nameV:1 opK:2"
    refine c_cal (x_dget (ev := (eT2 eI (eL eS))) (l := rows) keyE_str) fun t11 => ?_
    walk_at "~c opK:2"
    refine c_pur (x_ixT rfl) ?_
    exact rfl
  · refine c_c ?_
    exact rfl
  walk_at "~frzD"
  refine c_setD (e2 := [o0, o1, o2, o3, .val ((eL (eT5 eS eS eS eS eI)) ways), o5, o6, o7, .val (eS camp), .own (.dct (rows.map (eP eS (eT2 eI (eL eS))))), .own (.dct (heights.map (eP eS eI))), .val (eS xx), .val ((eO (eL eS)) z12), .no, .no, .sto ss]) rfl ?_
  walk_at "~seqN"
  refine c_bef (e2 := [o0, o1, o2, o3, .val ((eL (eT5 eS eS eS eS eI)) ways), o5, o6, o7, .val (eS camp), .own (.dct (rows.map (eP eS (eT2 eI (eL eS))))), .own (.dct (heights.map (eP eS eI))), .val (eS xx), .val ((eO (eL eS)) z12), .no, .no, .sto ss]) rfl ?_
  walk_at "~for rng cons c nil"
  refine c_rngK rfl fun l13 => ?_
  refine c_loopR (E := fun sE : (List MC) => [o0, o1, o2, o3, .val ((eL (eT5 eS eS eS eS eI)) ways), o5, o6, o7, .val (eS camp), .own (.dct (rows.map (eP eS (eT2 eI (eL eS))))), .own (.dct (heights.map (eP eS eI))), .val (eS xx), .val ((eO (eL eS)) z12), .no, .no, .sto sE]) (oR := fun z : Bool => .dat (eB z)) (eR := fun z => [.no, .no, .no, .no, .no, .no, .no, .no, .no, .no, .no, .no, .no, .no, .no, .no]) (forL_R (E := fun sE : (List MC) => [o0, o1, o2, o3, .val ((eL (eT5 eS eS eS eS eI)) ways), o5, o6, o7, .val (eS camp), .own (.dct (rows.map (eP eS (eT2 eI (eL eS))))), .own (.dct (heights.map (eP eS eI))), .val (eS xx), .val ((eO (eL eS)) z12), .no, .no, .sto sE]) (oR := fun z : Bool => .dat (eB z)) (eR := fun z => [.no, .no, .no, .no, .no, .no, .no, .no, .no, .no, .no, .no, .no, .no, .no, .no]) (ec := eI) (s_law_b2 (o0) (o1) (o2) (o3) ways (o5) (o6) (o7) camp (.own (.dct (rows.map (eP eS (eT2 eI (eL eS)))))) heights xx z12) _ ss) (fun z => ?_) (fun s30 => ?_)
  · refine c_aftR ?_
    exact rfl
  · refine c_aftN (e2 := [o0, o1, o2, o3, .val ((eL (eT5 eS eS eS eS eI)) ways), o5, o6, o7, .val (eS camp), .own (.dct (rows.map (eP eS (eT2 eI (eL eS))))), .own (.dct (heights.map (eP eS eI))), .no, .no, .no, .no, .sto s30]) rfl ?_
    exact rfl)
def m_law_b5 : MS := (mAft [8, 9, 10, 11, 12, 13, 14] (mSeq (mPutU [9, 10] (mConsU (mCallV fm_w_rows_from none (mCons (mFrz (mName 4)) (mCons (mFrz (mName 8)) mNil))) (mConsU (mCB gDict (mCons (mCallV fm_heights_of none (mCons (mFrz (mName 4)) (mCons (mFrz (mName 8)) mNil))) mNil)) mNil)))
    (mBef [11, 12, 13, 14] (mFor (mItL (mName 7)) (mgName 11) m_law_b3))))
def P_law_b6 (ways : (List (Str × Str × Str × Str × Int))) (asked : (List Str)) (xx : Str) (ss : (List MC)) : Option (Fw Bool (List MC)) :=
  (P_w_rows_from ways xx).bind fun r9 =>
  (P_heights_of ways xx).bind fun r10 =>
  (forR (P_law_b4 ways xx r9 (mergeL [] r10)) asked ss).bind fun w33 => w33.on (fun z => some (.rt z)) fun s32 =>
    some (.nx s32)
theorem s_law_b6 (o0 : Slot) (o1 : Slot) (o2 : Slot) (o3 : Slot) (ways : (List (Str × Str × Str × Str × Int))) (o5 : Slot) (o6 : Slot) (asked : (List Str)) (xx : Str) (ss : (List MC)) : ((mgName 8) (eS xx) [o0, o1, o2, o3, .val ((eL (eT5 eS eS eS eS eI)) ways), o5, o6, .val ((eL eS) asked), .no, .no, .no, .no, .no, .no, .no, .sto ss]).bind m_law_b5 = (P_law_b6 ways asked xx ss).map (outB (fun z : Bool => .dat (eB z)) (fun z => [.no, .no, .no, .no, .no, .no, .no, .no, .no, .no, .no, .no, .no, .no, .no, .no]) (fun ss : (List MC) => [o0, o1, o2, o3, .val ((eL (eT5 eS eS eS eS eI)) ways), o5, o6, .val ((eL eS) asked), .no, .no, .no, .no, .no, .no, .no, .sto ss])) := c_body (by
  unfold P_law_b6 m_law_b5
  refine c_gname (e2 := [o0, o1, o2, o3, .val ((eL (eT5 eS eS eS eS eI)) ways), o5, o6, .val ((eL eS) asked), .val (eS xx), .no, .no, .no, .no, .no, .no, .sto ss]) rfl ?_
  walk_at "~aft seq putU consU callV cons frz nameV:1 frzD cons frz nameV:1 frzD nil"
  refine c_callVK (bk := fun r9 => [o0, o1, o2, o3, .val ((eL (eT5 eS eS eS eS eI)) ways), o5, o6, .val ((eL eS) asked), .val (eS xx), .no, .no, .no, .no, .no, .no, .sto ss]) rfl (q_w_rows_from ways xx) (fun _ => rfl) fun r9 => ?_
  walk_at "~frzSN consU cb cons callV cons frz nameV:1 frzD cons frz nameV:1 frzD nil"
  refine c_callVK (bk := fun r10 => [o0, o1, o2, o3, .val ((eL (eT5 eS eS eS eS eI)) ways), o5, o6, .val ((eL eS) asked), .val (eS xx), .no, .no, .no, .no, .no, .no, .sto ss]) rfl (q_heights_of ways xx) (fun _ => rfl) fun r10 => ?_
  walk_at "~nil"
  refine c_cbK _ rfl ?_
  refine c_pur (x_dict (ev := eI) (l := r10) keyE_str) ?_
  walk_at "~frzSN nil"
  refine c_putUK [o0, o1, o2, o3, .val ((eL (eT5 eS eS eS eS eI)) ways), o5, o6, .val ((eL eS) asked), .val (eS xx), .own (.dct (r9.map (eP eS (eT2 eI (eL eS))))), .own (.dct ((mergeL [] r10).map (eP eS eI))), .no, .no, .no, .no, .sto ss] rfl ?_
  walk_at "~seqN"
  refine c_bef (e2 := [o0, o1, o2, o3, .val ((eL (eT5 eS eS eS eS eI)) ways), o5, o6, .val ((eL eS) asked), .val (eS xx), .own (.dct (r9.map (eP eS (eT2 eI (eL eS))))), .own (.dct ((mergeL [] r10).map (eP eS eI))), .no, .no, .no, .no, .sto ss]) rfl ?_
  walk_at "~for itL nameV:1 frzD itLK"
  refine c_loopR (E := fun sE : (List MC) => [o0, o1, o2, o3, .val ((eL (eT5 eS eS eS eS eI)) ways), o5, o6, .val ((eL eS) asked), .val (eS xx), .own (.dct (r9.map (eP eS (eT2 eI (eL eS))))), .own (.dct ((mergeL [] r10).map (eP eS eI))), .no, .no, .no, .no, .sto sE]) (oR := fun z : Bool => .dat (eB z)) (eR := fun z => [.no, .no, .no, .no, .no, .no, .no, .no, .no, .no, .no, .no, .no, .no, .no, .no]) (forL_R (E := fun sE : (List MC) => [o0, o1, o2, o3, .val ((eL (eT5 eS eS eS eS eI)) ways), o5, o6, .val ((eL eS) asked), .val (eS xx), .own (.dct (r9.map (eP eS (eT2 eI (eL eS))))), .own (.dct ((mergeL [] r10).map (eP eS eI))), .no, .no, .no, .no, .sto sE]) (oR := fun z : Bool => .dat (eB z)) (eR := fun z => [.no, .no, .no, .no, .no, .no, .no, .no, .no, .no, .no, .no, .no, .no, .no, .no]) (ec := eS) (s_law_b4 (o0) (o1) (o2) (o3) ways (o5) (o6) (.val ((eL eS) asked)) xx r9 (mergeL [] r10)) _ ss) (fun z => ?_) (fun s32 => ?_)
  · refine c_aftR ?_
    exact rfl
  · refine c_aftN (e2 := [o0, o1, o2, o3, .val ((eL (eT5 eS eS eS eS eI)) ways), o5, o6, .val ((eL eS) asked), .no, .no, .no, .no, .no, .no, .no, .sto s32]) rfl ?_
    exact rfl)
def m_law_b7 : MS := (mAft [2, 3, 4, 5, 6, 7, 8, 9, 10, 11, 12, 13, 14] (mSeq (mSet 3 (mCallF fm_w_box none (mCons (mName 1) (mCons (mName 2) mNil))))
    (mSeq (mAsg (mCallV fm_w_map (some 0) (mCons (mName 3) (mCons (mFrz (mOp gIx (mLst (mCons (mFrz (mC (.int 10))) (mCons (mFrz (mC (.int 5))) mNil))) (mCallF fm_w_take (some 0) (mCons (mName 3) (mCons (mC (.int 2)) mNil))))) mNil))) (mgTup (mgCons (mgName 4) (mgCons (mgName 5) mgNil))))
    (mSeq (mPutU [6, 7] (mConsU (mFrz (mCB gList (mCons (mName 4) mNil))) (mConsU (mFrz (mOp gAdd (mName 5) (mLst (mCons (mFrz (mC (.str "nowhere"))) mNil)))) mNil)))
    (mSeq (mBef [8, 9, 10, 11, 12, 13, 14] (mFor (mItL (mSl gSlL (mCallF fm_w_strewn_2 (some 0) (mCons (mName 3) (mCons (mName 7) mNil))) mNoPart (mPart (mC (.int 4))))) (mgName 8) m_law_b5))
    (mIfS (mTest (mOp (gEq true) (mName 4) (mName 6))) (mRetW [0, 1, 2, 3, 4, 5, 6, 7, 8, 9, 10, 11, 12, 13, 14, 15] (mC (.bool false))) mSkip))))))
def P_law_b8 (cells : (List Int)) (xx : Int) (ss : (List MC)) : Option (Fw Bool (List MC)) :=
  (P_w_box cells xx).bind fun r3 =>
  (P_w_take r3 2).bind fun r4 =>
  (pIx [10, 5] r4.1).bind fun t5 =>
  (P_w_map r4.2 t5).bind fun r6 =>
  (pCat r6.1.2 [("nowhere" : Str)]).bind fun t7 =>
  (P_w_strewn_2 r6.2 t7).bind fun r8 =>
  (forR (P_law_b6 r6.1.1 t7) (cutL r8.1 none (some 4)) ss).bind fun w35 => w35.on (fun z => some (.rt z)) fun s34 =>
    (pEq (eL (eT5 eS eS eS eS eI)) true r6.1.1 r6.1.1).bind fun t36 =>
    if t36 = true then
      some (.rt false)
    else
      some (.nx s34)
theorem s_law_b8 (o0 : Slot) (cells : (List Int)) (xx : Int) (ss : (List MC)) : ((mgName 2) (eI xx) [o0, .val ((eL eI) cells), .no, .no, .no, .no, .no, .no, .no, .no, .no, .no, .no, .no, .no, .sto ss]).bind m_law_b7 = (P_law_b8 cells xx ss).map (outB (fun z : Bool => .dat (eB z)) (fun z => [.no, .no, .no, .no, .no, .no, .no, .no, .no, .no, .no, .no, .no, .no, .no, .no]) (fun ss : (List MC) => [o0, .val ((eL eI) cells), .no, .no, .no, .no, .no, .no, .no, .no, .no, .no, .no, .no, .no, .sto ss])) := c_body (by
  unfold P_law_b8 m_law_b7
  refine c_gname (e2 := [o0, .val ((eL eI) cells), .val (eI xx), .no, .no, .no, .no, .no, .no, .no, .no, .no, .no, .no, .no, .sto ss]) rfl ?_
  walk_at "~aft seq set callF cons nameV:1 cons nameV:1 nil"
  refine c_callK (bk := fun r3 => [o0, .val ((eL eI) cells), .val (eI xx), .no, .no, .no, .no, .no, .no, .no, .no, .no, .no, .no, .no, .sto ss]) rfl rfl (q_w_box cells xx) (fun _ => by walk_at "fl") (fun _ => rfl) fun r3 => ?_
  refine c_setN (e2 := [o0, .val ((eL eI) cells), .val (eI xx), .own (.lst (r3.map eI)), .no, .no, .no, .no, .no, .no, .no, .no, .no, .no, .no, .sto ss]) rfl ?_
  walk_at "~seqN seq asg callV cons nameO:1 cons frz op lst cons frz c frzD cons frz c frzD nil"
  refine c_lstK ([10, 5].map eI) rfl (Nat.le_of_ble_eq_true rfl) ?_
  walk_at "~callF cons nameO:1 cons c nil"
  refine c_callK (bk := fun r4 => [o0, .val ((eL eI) cells), .val (eI xx), .own (.lst (r4.2.map eI)), .no, .no, .no, .no, .no, .no, .no, .no, .no, .no, .no, .sto ss]) rfl rfl (q_w_take r3 2) (fun _ => by walk_at "fl") (fun _ => rfl) fun r4 => ?_
  walk_at "~opK:2"
  refine c_cal (x_ix (e := eI) (l := [10, 5])) fun t5 => ?_
  walk_at "~frzD nil"
  refine c_callVK (bk := fun r6 => [o0, .val ((eL eI) cells), .val (eI xx), .own (.lst (r6.2.map eI)), .no, .no, .no, .no, .no, .no, .no, .no, .no, .no, .no, .sto ss]) rfl (q_w_map r4.2 t5) (fun _ => rfl) fun r6 => ?_
  walk_at "~frzD asgK gtup gcons"
  refine c_gname (e2 := [o0, .val ((eL eI) cells), .val (eI xx), .own (.lst (r6.2.map eI)), .val ((eL (eT5 eS eS eS eS eI)) r6.1.1), .no, .no, .no, .no, .no, .no, .no, .no, .no, .no, .sto ss]) rfl ?_
  walk_at "~gcons"
  refine c_gname (e2 := [o0, .val ((eL eI) cells), .val (eI xx), .own (.lst (r6.2.map eI)), .val ((eL (eT5 eS eS eS eS eI)) r6.1.1), .val ((eL eS) r6.1.2), .no, .no, .no, .no, .no, .no, .no, .no, .no, .sto ss]) rfl ?_
  walk_at "~gnil seqN seq putU consU frz cb cons nameV:1 nil"
  refine c_cbK _ rfl ?_
  refine c_pur x_listL ?_
  walk_at "~frzN frzSD consU frz op nameV:1 lst cons frz c frzD nil"
  refine c_lstK ([("nowhere" : Str)].map eS) rfl (Nat.le_of_ble_eq_true rfl) ?_
  walk_at "~opK:2"
  refine c_cal (x_cat (e := eS)) fun t7 => ?_
  walk_at "~frzN frzSD nil"
  refine c_putUK [o0, .val ((eL eI) cells), .val (eI xx), .own (.lst (r6.2.map eI)), .val ((eL (eT5 eS eS eS eS eI)) r6.1.1), .val ((eL eS) r6.1.2), .val ((eL (eT5 eS eS eS eS eI)) r6.1.1), .val ((eL eS) t7), .no, .no, .no, .no, .no, .no, .no, .sto ss] rfl ?_
  walk_at "~seqN seq"
  refine c_bef (e2 := [o0, .val ((eL eI) cells), .val (eI xx), .own (.lst (r6.2.map eI)), .val ((eL (eT5 eS eS eS eS eI)) r6.1.1), .val ((eL eS) r6.1.2), .val ((eL (eT5 eS eS eS eS eI)) r6.1.1), .val ((eL eS) t7), .no, .no, .no, .no, .no, .no, .no, .sto ss]) rfl ?_
  walk_at "~for itL sl callF cons nameO:1 cons nameV:1 nil"
  refine c_callK (bk := fun r8 => [o0, .val ((eL eI) cells), .val (eI xx), .own (.lst (r8.2.map eI)), .val ((eL (eT5 eS eS eS eS eI)) r6.1.1), .val ((eL eS) r6.1.2), .val ((eL (eT5 eS eS eS eS eI)) r6.1.1), .val ((eL eS) t7), .no, .no, .no, .no, .no, .no, .no, .sto ss]) rfl rfl (q_w_strewn_2 r6.2 t7) (fun _ => by walk_at "fl") (fun _ => rfl) fun r8 => ?_
  walk_at "~noPart part c partK"
  refine c_slK _ rfl ?_
  refine c_pur x_cut ?_
  walk_at "~frzN itLK"
  refine c_loopR (E := fun sE : (List MC) => [o0, .val ((eL eI) cells), .val (eI xx), .own (.lst (r8.2.map eI)), .val ((eL (eT5 eS eS eS eS eI)) r6.1.1), .val ((eL eS) r6.1.2), .val ((eL (eT5 eS eS eS eS eI)) r6.1.1), .val ((eL eS) t7), .no, .no, .no, .no, .no, .no, .no, .sto sE]) (oR := fun z : Bool => .dat (eB z)) (eR := fun z => [.no, .no, .no, .no, .no, .no, .no, .no, .no, .no, .no, .no, .no, .no, .no, .no]) (forL_R (E := fun sE : (List MC) => [o0, .val ((eL eI) cells), .val (eI xx), .own (.lst (r8.2.map eI)), .val ((eL (eT5 eS eS eS eS eI)) r6.1.1), .val ((eL eS) r6.1.2), .val ((eL (eT5 eS eS eS eS eI)) r6.1.1), .val ((eL eS) t7), .no, .no, .no, .no, .no, .no, .no, .sto sE]) (oR := fun z : Bool => .dat (eB z)) (eR := fun z => [.no, .no, .no, .no, .no, .no, .no, .no, .no, .no, .no, .no, .no, .no, .no, .no]) (ec := eS) (s_law_b6 (o0) (.val ((eL eI) cells)) (.val (eI xx)) (.own (.lst (r8.2.map eI))) r6.1.1 (.val ((eL eS) r6.1.2)) (.val ((eL (eT5 eS eS eS eS eI)) r6.1.1)) t7) _ ss) (fun z => ?_) (fun s34 => ?_)
  · refine c_seqR ?_
    walk_at "~aftR"
    exact rfl
  · refine c_seqN ?_
    walk_at "~ifS test op nameV:1 nameV:1 opK:2"
    refine c_cal (x_eqE (x := r6.1.1) (y := r6.1.1) (eqE_list (eqE_t5 eqE_str eqE_str eqE_str eqE_str eqE_int)) rfl) fun t36 => ?_
    walk_at "~testK"
    refine c_ite ?_ ?_
    · refine c_ret ?_
      walk_at "~c"
      refine c_retK (.dat (eB false)) rfl (e2 := [.no, .no, .no, .no, .no, .no, .no, .no, .no, .no, .no, .no, .no, .no, .no, .no]) (by simp only [Cm.wipeS, List.set_cons_succ, List.set_cons_zero]) ?_
      walk_at "~aftR"
      exact rfl
    · refine c_skip ?_
      refine c_aftN (e2 := [o0, .val ((eL eI) cells), .no, .no, .no, .no, .no, .no, .no, .no, .no, .no, .no, .no, .no, .sto s34]) rfl ?_
      exact rfl)
def m_law : MS := (mSeq (mSet 1 (mFrz (mCallF fm_w_folded none (mCons (mName 0) (mCons (mC (.int 3)) mNil)))))
    (mSeq (mBef [2, 3, 4, 5, 6, 7, 8, 9, 10, 11, 12, 13, 14] (mFor (mRange1 (mCons (mCB (gInt2 fun i j => if j > i then j else i) (mCons (mC (.int 1)) (mCons (mCB gLen (mCons (mName 1) mNil)) mNil))) mNil)) (mgName 2) m_law_b7))
    (mRetW [0, 1, 2, 3, 4, 5, 6, 7, 8, 9, 10, 11, 12, 13, 14, 15] (mAndV (mOp (gEq false) (mCallV fm_least_row none (mCons (mFrz (mLst mNil)) (mCons (mFrz (mC (.str "a"))) (mCons (mFrz (mC (.str "a"))) mNil)))) (mLst mNil)) (mOp (gIsN false) (mCallV fm_least_row none (mCons (mFrz (mLst mNil)) (mCons (mFrz (mC (.str "a"))) (mCons (mFrz (mC (.str "b"))) mNil)))) (mC .none))))))
def fm_law : FM := fmSt 1 16 m_law
theorem ok_law (T : Tx w K mg fd) : FnOk P w K mg base CX0 11 (He.ga K "law") (fd 14) ["_law_script"] (spF K fm_law) :=
  fn_okS T.F_law sc_law fun cdv A outer s H E hr => (show VSs _ _ m_law from (vs_cons (vs_set (i := 1) sc_law.nd (ve_frz (ve_callF none (FnOk.mono (ok_w_folded T) (by decide)) hr T.g_w_folded T.F_w_folded.kp (bi_w_folded T) (va_cons (ve_name 0) (va_cons ve_int va_nil)))))
      (vs_cons (vs_bef (ws := [2, 3, 4, 5, 6, 7, 8, 9, 10, 11, 12, 13, 14]) (vs_for PassesOwn.never (vi_range1 T.b_range (va_cons (ve_callB (call_max2 rfl) (cd_int2 (f := fun i j => if j > i then j else i)) (by rfl) T.b_max (by decide +kernel) (va_cons ve_int (va_cons (ve_callB call_len cd_len (by rfl) T.b_len PySem.boot_len (va_cons (ve_name 1) va_nil)) va_nil))) va_nil)) (vg_name (j := 2) sc_law.nd) (vs_aft (ws := [2, 3, 4, 5, 6, 7, 8, 9, 10, 11, 12, 13, 14]) (vs_cons (vs_set (i := 3) sc_law.nd (ve_callF none (FnOk.mono (ok_w_box T) (by decide)) hr T.g_w_box T.F_w_box.kp (bi_w_box T) (va_cons (ve_name 1) (va_cons (ve_name 2) va_nil))))
      (vs_cons (vs_asg (ve_callV (some 0) (FnOk.mono (ok_w_map T) (by decide)) hr T.g_w_map T.F_w_map.kp (bi_w_map T) (va_cons (ve_name 3) (va_cons (ve_frz (ve_ix ix_seq od_ix (ve_lst (va_cons (ve_frz ve_int) (va_cons (ve_frz ve_int) va_nil))) (ve_callF (some 0) (FnOk.mono (ok_w_take T) (by decide)) hr T.g_w_take T.F_w_take.kp (bi_w_take T) (va_cons (ve_name 3) (va_cons ve_int va_nil))) (fun _ _ => rfl))) va_nil))) (vg_tup (vgs_cons (vg_name (j := 4) sc_law.nd) (vgs_cons (vg_name (j := 5) sc_law.nd) vgs_nil)) (mgcons_len (mgcons_len mgnil_len))))
      (vs_cons (vs_par (i := 6) (j := 7) sc_law.nd (vau_cons (ve_frz (ve_callTy call_list_of cd_list (by rfl) T.b_list (by decide +kernel) (va_cons (ve_name 4) va_nil))) (vau_cons (ve_frz (ve_op or_add od_add (ve_name 5) (ve_lst (va_cons (ve_frz ve_str) va_nil)))) vau_nil)))
      (vs_cons (vs_bef (ws := [8, 9, 10, 11, 12, 13, 14]) (vs_for PassesOwn.never (vi_list (ve_slice sl_list sd_list (ve_callF (some 0) (FnOk.mono (ok_w_strewn_2 T) (by decide)) hr T.g_w_strewn T.F_w_strewn.kp (bi_w_strewn T) (va_cons (ve_name 3) (va_cons (ve_name 7) va_nil))) vo_none (vo_some ve_int))) (vg_name (j := 8) sc_law.nd) (vs_aft (ws := [8, 9, 10, 11, 12, 13, 14]) (vs_cons (vs_par (i := 9) (j := 10) sc_law.nd (vau_cons (ve_callV none (FnOk.mono (ok_w_rows_from T) (by decide)) hr T.g_w_rows_from T.F_w_rows_from.kp (bi_w_rows_from T) (va_cons (ve_frz (ve_name 4)) (va_cons (ve_frz (ve_name 8)) va_nil))) (vau_cons (ve_callTy (call_dictP rfl) cd_dict (by rfl) T.b_dict (by decide +kernel) (va_cons (ve_callV none (FnOk.mono (ok_heights_of T) (by decide)) hr T.g_heights_of T.F_heights_of.kp (bi_heights_of T) (va_cons (ve_frz (ve_name 4)) (va_cons (ve_frz (ve_name 8)) va_nil))) va_nil)) vau_nil)))
      (vs_one (vs_bef (ws := [11, 12, 13, 14]) (vs_for PassesOwn.never (vi_list (ve_name 7)) (vg_name (j := 11) sc_law.nd) (vs_aft (ws := [11, 12, 13, 14]) (vs_cons (vs_set (i := 12) sc_law.nd (ve_frz (ve_if (vt_cmp (op_din hr.units) (od_din (neg := false)) (ve_name 11) (ve_name 9) (by rfl)) (ve_ix ix_seq od_ix (ve_dget hr.units (ve_name 9) (ve_name 11) (fun _ _ => rfl)) ve_int (fun _ _ => rfl)) ve_non)))
      (vs_one (vs_bef (ws := [13, 14]) (vs_forC PassesOwn.never (vi_range1 T.b_range (va_cons ve_int va_nil)) (vg_name (j := 13) sc_law.nd) (vs_aft (ws := [13, 14]) (vs_cons (vs_set (i := 14) sc_law.nd (ve_callM none (FnOk.mono (okM_least_row T) (by decide)) hr T.g_least_row T.F_least_row.kp (bi_least_row T) (va_cons (ve_frz (ve_name 4)) (va_cons (ve_frz (ve_name 8)) (va_cons (ve_frz (ve_name 11)) va_nil)))))
      (vs_cons (vs_if (vt_lendK (vt_not (vt_val (ve_callF none (FnOk.mono (ok_w_same T 9) (by decide)) hr T.g_w_same T.F_w_same.kp (bi_w_same T) (va_cons (ve_tyE (ve_kn (ve_name 14))) (va_cons (ve_name 12) va_nil)))))) (vs_one (vs_retW ve_bl)) vs_nil)
      (vs_cons (vs_if (vt_lendK (vt_isNP (ve_name 14))) (vs_one vs_continue) vs_nil)
      (vs_cons (vs_if (vt_lendK (vt_cmp (or_ne hr.units) od_ne (ve_callV none (FnOk.mono (ok_w_walked T) (by decide)) hr T.g_w_walked T.F_w_walked.kp (bi_w_walked T) (va_cons (ve_frz (ve_name 4)) (va_cons (ve_frz (ve_name 8)) (va_cons (ve_frz (ve_tyE (ve_kn (ve_name 14)))) va_nil)))) (ve_tup (va_cons (ve_frz (ve_name 11)) (va_cons (ve_frz (ve_dget hr.units (ve_name 10) (ve_name 11) (fun _ _ => rfl))) va_nil))) (nomark _))) (vs_one (vs_retW ve_bl)) vs_nil)
      (vs_one (vs_expr (ve_pm PySem.F.slot_list_append PySem.F.type_list_append mt_append pm_app (ve_name 14) (va_cons ve_str va_nil)))))))))))))))))))))
      (vs_one (vs_if (vt_cmp (or_ne hr.units) od_ne (ve_name 4) (ve_name 6) (nomark _)) (vs_one (vs_retW ve_bl)) vs_nil)))))))))
      (vs_one (vs_retW (ve_and (ve_cmp (or_eq hr.units) od_eq (ve_callV none (FnOk.mono (ok_least_row T) (by decide)) hr T.g_least_row T.F_least_row.kp (bi_least_row T) (va_cons (ve_frz (ve_lst va_nil)) (va_cons (ve_frz ve_str) (va_cons (ve_frz ve_str) va_nil)))) (ve_lst va_nil) (nomark _)) (ve_one (ve_cmp op_isN od_isN (ve_callV none (FnOk.mono (ok_least_row T) (by decide)) hr T.g_least_row T.F_least_row.kp (bi_least_row T) (va_cons (ve_frz (ve_lst va_nil)) (va_cons (ve_frz ve_str) (va_cons (ve_frz ve_str) va_nil)))) ve_non (nomark _)))))))))
def P_law (script : List Int) : Option Bool :=
  (P_w_folded script 3).bind fun r1 =>
  (pRng (maxI 1 (r1.length : Int))).bind fun l2 =>
  (forR (P_law_b8 r1) l2 ([] : List MC)).bind fun w38 => w38.on (fun z => some z) fun s37 =>
    (PS_least_row ([] : (List (Str × Str × Str × Str × Int))) ("a" : Str) ("a" : Str)).bind fun r39 =>
    (pEqD false r39 ((eL eI) ([] : List Int))).bind fun t40 =>
    (if t40 = true then
      (PS_least_row ([] : (List (Str × Str × Str × Str × Int))) ("a" : Str) ("b" : Str)).bind fun r41 =>
      some (pIsN false r41)
    else
      some false).bind fun z42 =>
    some z42
theorem q_law (script : List Int) : fm_law [.scr script] = (P_law script).map fun z => (.dat (eB z), [.no]) := by
  unfold fm_law m_law P_law
  refine c_fmSt (oR := fun z : Bool => .dat (eB z)) (eR := fun z => [.no, .no, .no, .no, .no, .no, .no, .no, .no, .no, .no, .no, .no, .no, .no, .no]) [.scr script, .no, .no, .no, .no, .no, .no, .no, .no, .no, .no, .no, .no, .no, .no, .sto ([] : List MC)] rfl rfl ?_ (fun _ => rfl) (fun _ => by walk_at "ik") (fun _ => rfl)
  walk_at "~seq set frz callF cons nameS:1 cons c nil"
  refine c_callK (bk := fun r1 => [.scr script, .no, .no, .no, .no, .no, .no, .no, .no, .no, .no, .no, .no, .no, .no, .sto ([] : List MC)]) rfl rfl (q_w_folded script 3) (fun _ => by walk_at "fl") (fun _ => rfl) fun r1 => ?_
  walk_at "~frzN"
  refine c_setD (e2 := [.scr script, .val ((eL eI) r1), .no, .no, .no, .no, .no, .no, .no, .no, .no, .no, .no, .no, .no, .sto ([] : List MC)]) rfl ?_
  walk_at "~seqN seq"
  refine c_bef (e2 := [.scr script, .val ((eL eI) r1), .no, .no, .no, .no, .no, .no, .no, .no, .no, .no, .no, .no, .no, .sto ([] : List MC)]) rfl ?_
  walk_at "~for rng cons cb cons c cons cb cons nameV:1 nil"
  refine c_cbK _ rfl ?_
  refine c_pur (x_lenL (e := eI) (l := r1)) ?_
  walk_at "~nil"
  refine c_cbK _ rfl ?_
  refine c_pur x_int2 ?_
  walk_at "~nil"
  refine c_rngK rfl fun l2 => ?_
  refine c_loopR (E := fun sE : (List MC) => [.scr script, .val ((eL eI) r1), .no, .no, .no, .no, .no, .no, .no, .no, .no, .no, .no, .no, .no, .sto sE]) (oR := fun z : Bool => .dat (eB z)) (eR := fun z => [.no, .no, .no, .no, .no, .no, .no, .no, .no, .no, .no, .no, .no, .no, .no, .no]) (forL_R (E := fun sE : (List MC) => [.scr script, .val ((eL eI) r1), .no, .no, .no, .no, .no, .no, .no, .no, .no, .no, .no, .no, .no, .sto sE]) (oR := fun z : Bool => .dat (eB z)) (eR := fun z => [.no, .no, .no, .no, .no, .no, .no, .no, .no, .no, .no, .no, .no, .no, .no, .no]) (ec := eI) (s_law_b8 (.scr script) r1) _ ([] : List MC)) (fun z => ?_) (fun s37 => ?_)
  · refine c_seqR ?_
    exact rfl
  · refine c_seqN ?_
    walk_at "~ret andV op callV cons frz lst nil"
    refine c_lstK (([] : List Int).map eI) rfl (Nat.le_of_ble_eq_true rfl) ?_
    walk_at "~frzN cons frz c frzD cons frz c frzD nil"
    refine c_callVK (bk := fun r39 => [.scr script, .val ((eL eI) r1), .no, .no, .no, .no, .no, .no, .no, .no, .no, .no, .no, .no, .no, .sto s37]) rfl (qS_least_row ([] : (List (Str × Str × Str × Str × Int))) ("a" : Str) ("a" : Str)) (fun _ => rfl) fun r39 => ?_
    walk_at "~lst nil"
    refine c_lstK (([] : List Int).map eI) rfl (Nat.le_of_ble_eq_true rfl) ?_
    walk_at "~opK:2"
    refine c_cal x_eqD fun t40 => ?_
    walk_at "~boolK"
    refine c_ifJ (fun z42 => (.dat (.bool z42), [.scr script, .val ((eL eI) r1), .no, .no, .no, .no, .no, .no, .no, .no, .no, .no, .no, .no, .no, .sto s37])) ?_ ?_ fun z42 => ?_
    · refine c_op ?_
      walk_at "~callV cons frz lst nil"
      refine c_lstK (([] : List Int).map eI) rfl (Nat.le_of_ble_eq_true rfl) ?_
      walk_at "~frzN cons frz c frzD cons frz c frzD nil"
      refine c_callVK (bk := fun r41 => [.scr script, .val ((eL eI) r1), .no, .no, .no, .no, .no, .no, .no, .no, .no, .no, .no, .no, .no, .sto s37]) rfl (qS_least_row ([] : (List (Str × Str × Str × Str × Int))) ("a" : Str) ("b" : Str)) (fun _ => rfl) fun r41 => ?_
      walk_at "~c opK:2"
      refine c_pur x_isND ?_
      exact rfl
    · exact rfl
    refine c_retK (.dat (eB z42)) rfl (e2 := [.no, .no, .no, .no, .no, .no, .no, .no, .no, .no, .no, .no, .no, .no, .no, .no]) (by simp only [Cm.wipeS, List.set_cons_succ, List.set_cons_zero]) ?_
    exact rfl
end
end Lw
namespace Lw
open PySem L2 Cm
theorem sq_le {c : Int} (h0 : 0 ≤ c) (h1 : c ≤ 2147483648) : 0 ≤ c * c ∧ c * c ≤ 2147483648 * 2147483648 := ⟨Int.mul_nonneg h0 h0, Int.mul_le_mul h1 h1 h0 (by omega)⟩
theorem take_wp {b : List Int} {n m : Int} (h : Bok b n) (hn : n < 2147483648) (hm : 0 < m ∧ m < 1073741824) : Wp (P_w_take b m) fun r => (0 ≤ r.1 ∧ r.1 < m) ∧ Bok r.2 (n + 1) := by
  obtain ⟨a, v, c, rfl, h1, h2, h3⟩ := h
  unfold P_w_take
  refine wp_be (ix_eq (z := a) (by omega) rfl) ?_
  refine wp_ifd (fun ha => ?_) (fun ha => ?_)
  · refine wp_be (ix_eq (z := a) (by omega) rfl) ?_
    refine wp_be (mod_eq hm.1) ?_
    refine wp_be (ix_eq (z := a) (by omega) rfl) ?_
    refine wp_be (div_eq hm) ?_
    refine wp_be (set_eq (by omega) (by simp)) ?_
    exact wp_some ⟨⟨Int.emod_nonneg _ (by omega), Int.emod_lt_of_pos _ hm.1⟩, a / m, v, c, rfl, Int.ediv_nonneg h1 (by omega), h2, by omega⟩
  · have hs := sq_le (c := c + 1) (by omega) (by omega)
    refine wp_be (ix_eq (z := c) (by omega) rfl) ?_
    refine wp_be (set_eq (by omega) (by simp)) ?_
    refine wp_be (ix_eq (z := c + 1) (by omega) rfl) ?_
    refine wp_be (ix_eq (z := c + 1) (by omega) rfl) ?_
    refine wp_be (mul_eq (by omega)) ?_
    refine wp_let ?_
    refine wp_be (ix_eq (z := v) (by omega) rfl) ?_
    refine wp_be (ix_eq (z := c + 1) (by omega) rfl) ?_
    generalize (c + 1) * (c + 1) = q at hs ⊢
    refine wp_be (mul_eq (.inr (by omega))) ?_
    refine wp_let ?_
    refine wp_be (mul_eq (.inr (by omega))) ?_
    refine wp_be (ix_eq (z := c + 1) (by omega) rfl) ?_
    refine wp_let ?_
    refine wp_be (mul_eq (.inr (by omega))) ?_
    refine wp_be (mod_eq hm.1) ?_
    exact wp_some ⟨⟨Int.emod_nonneg _ (by omega), Int.emod_lt_of_pos _ hm.1⟩, a, v, c + 1, rfl, h1, by omega, by omega⟩
theorem box_wp (l : List Int) (k : Int) (hk : 0 ≤ k) : Wp (P_w_box l k) fun b => Bok b 0 := by
  unfold P_w_box
  refine wp_bind (R := fun _ => True) ?_ fun z _ => ?_
  · refine wp_ifd (fun h => ?_) (fun h => ?_)
    · exact wp_bind (ix_wp hk h) fun z _ => wp_some trivial
    · exact wp_some trivial
  · have ha := absI_nn z
    refine wp_be (mul_eq (.inr (by split <;> omega))) ?_
    refine wp_some ⟨_, _, _, rfl, ?_, by omega, by omega⟩
    split
    · omega
    · simp
theorem folded_wp (ns : List Int) (h63 : ns.length ≤ 63) (k : Nat) (hk : 0 < k ∧ k < 1000) : Wp (P_w_folded ns (k : Int)) fun cs => cs.length ≤ k := by
  unfold P_w_folded
  refine wp_let ?_
  rw [cutL_to]
  refine wp_bind (wp_loop (I := fun _ s => s.length = (ns.take k).length) rfl ?_) fun s hs => wp_some ?_
  · intro j x s hx hs
    obtain ⟨h1, h2⟩ := enumI_get hx
    rw [Nat.zero_add] at h1
    have hj := (List.getElem?_eq_some_iff.mp h2).1
    have hl : (cutL ns (some (k : Int)) (some 63)).length ≤ ns.length := cutL_len _ _ _
    -- the list behind is empty where there are fewer than k
    have hfull : (ns.take k).length = k := by
      rw [List.length_take]
      by_cases hc : k ≤ ns.length
      · omega
      · exfalso
        have : cutL ns (some (k : Int)) (some 63) = [] := by
          unfold cutL
          rw [HT.sIx_nat, Nat.min_eq_right (by omega), List.drop_of_length_le (Nat.le_refl _), List.take_nil]
        rw [this] at hj
        simp at hj
    unfold P_w_folded_b2
    have m1 := Int.emod_nonneg x.1 (b := (k : Int)) (by omega)
    have m2 := Int.emod_lt_of_pos x.1 (b := (k : Int)) (by omega)
    refine wp_be (mod_eq (by omega)) ?_
    refine wp_bind (ix_wp m1 (by omega)) fun t3 _ => ?_
    refine wp_be (mul_eq (.inr (by omega))) ?_
    refine wp_be (mod_eq (by omega)) ?_
    refine wp_be (set_eq m1 (by omega)) ?_
    exact wp_some (by rw [List.length_set]; exact hs)
  · rw [hs, List.length_take]; omega
inductive Rw : List Int → Int → Nat → Prop
  | one {s : Int} (h1 : 1 ≤ s) (h2 : s ≤ 100) : Rw [s] s 1
  | more {l : List Int} {s t : Int} {n : Nat} : Rw l s n → 2 ≤ t → t ≤ 12 → Rw (l ++ [s * t]) (s * t) (n + 1)
theorem Rw.len {l : List Int} {s : Int} {n : Nat} (h : Rw l s n) : l.length = n := by
  induction h with
  | one _ _ => rfl
  | more _ _ _ ih => rw [List.length_append, ih]; rfl
theorem Rw.pos {l : List Int} {s : Int} {n : Nat} (h : Rw l s n) : 0 < n := by cases h <;> omega
theorem Rw.last {l : List Int} {s : Int} {n : Nat} (h : Rw l s n) : ∃ k, l = k ++ [s] := by
  cases h with
  | one _ _ => exact ⟨[], rfl⟩
  | more _ _ _ => exact ⟨_, rfl⟩
theorem Rw.big {l : List Int} {s : Int} {n : Nat} (h : Rw l s n) : 1 ≤ s ∧ s ≤ 100 * 12 ^ (n - 1) := by
  induction h with
  | one h1 h2 => exact ⟨h1, h2⟩
  | @more l s t n h0 h1 h2 ih =>
    have hp := h0.pos
    refine ⟨?_, ?_⟩
    · have : 1 * 1 ≤ s * t := Int.mul_le_mul ih.1 (by omega) (by omega) (by omega)
      omega
    · have h3 : s * t ≤ (100 * 12 ^ (n - 1)) * 12 := Int.mul_le_mul ih.2 h2 (by omega) (by omega)
      have h4 : (12 : Int) ^ (n + 1 - 1) = 12 ^ (n - 1) * 12 := by
        rw [← Int.pow_succ]
        congr 1
        omega
      rw [h4, ← Int.mul_assoc]
      exact h3
theorem Rw.mem {l : List Int} {s : Int} {n : Nat} (h : Rw l s n) : ∀ x ∈ l, 1 ≤ x ∧ x ≤ s := by
  induction h with
  | one h1 h2 =>
    intro x hx
    rw [List.mem_singleton] at hx
    omega
  | @more l s t n h0 h1 h2 ih =>
    intro x hx
    have hb := h0.big.1
    have h3 : s * 1 ≤ s * t := Int.mul_le_mul_of_nonneg_left (by omega) (by omega)
    rcases List.mem_append.mp hx with hx | hx
    · have := ih x hx
      omega
    · rw [List.mem_singleton] at hx
      omega
theorem Rw.step {l : List Int} {s : Int} {n : Nat} (h : Rw l s n) : ∀ (i : Nat) x y, l[i]? = some x → l[i + 1]? = some y → x ≤ y ∧ ∃ t, 2 ≤ t ∧ t ≤ 12 ∧ y = x * t := by
  induction h with
  | one h1 h2 =>
    intro i x y h3 h4
    simp at h4
  | @more l s t n h0 h1 h2 ih =>
    intro i x y h3 h4
    by_cases hi : i + 1 < l.length
    · rw [List.getElem?_append_left hi] at h4
      rw [List.getElem?_append_left (by omega)] at h3
      exact ih i x y h3 h4
    · have hi2 : i + 1 = l.length := by
        have := (List.getElem?_eq_some_iff.mp h4).1
        rw [List.length_append, List.length_singleton] at this
        omega
      rw [List.getElem?_append_right (by omega), hi2, Nat.sub_self] at h4
      simp at h4
      rw [List.getElem?_append_left (by omega)] at h3
      obtain ⟨k, rfl⟩ := h0.last
      rw [List.length_append, List.length_singleton] at hi2
      rw [List.getElem?_append_right (by omega), show i - k.length = 0 by omega] at h3
      simp at h3
      subst h3 h4
      have hb := h0.big.1
      have h5 : s * 1 ≤ s * t := Int.mul_le_mul_of_nonneg_left (by omega) (by omega)
      exact ⟨by omega, t, h1, h2, rfl⟩
def Lt (s : Str) : Prop := ∀ c ∈ s.cps.toList, 97 ≤ c ∧ c ≤ 122
structure Nm (s : Str) : Prop where
  lo : 1 ≤ s.length
  hi : s.length ≤ 8
  lt : Lt s
theorem Nm.ok {s : Str} (h : Nm s) : PyData.strOk s = true := by
  unfold PyData.strOk
  rw [Array.all_eq_true']
  intro c hc
  have := h.lt c (by simpa using hc)
  simp
  omega
abbrev abc : Str := "abcdefghijklmnopqrstuvwxyz"
theorem abc_list : abc.cps.toList = (List.range 26).map (· + 97) := by decide +kernel
theorem abc_len : abc.length = 26 := by decide +kernel
theorem abc_ix {i : Int} (h0 : 0 ≤ i) (h1 : i < 26) : pIxS abc i = some ⟨#[i.toNat + 97]⟩ := by
  unfold pIxS
  rw [if_pos (by rw [abc_len]; decide), abc_list]
  have : pIx ((List.range 26).map (· + 97)) i = some (i.toNat + 97) := by
    refine ix_eq h0 ?_
    rw [List.getElem?_map, List.getElem?_range (by omega)]
    rfl
  unfold pIx at this
  rw [this]
  rfl
theorem one_len (c : Nat) : (⟨#[c]⟩ : Str).length = 1 := rfl
abbrev wordS : Str := "hand off load canoe way shut storm store take leave fill go land water strike undo late roll"
theorem words_split : ∃ l, pSplit wordS " " = some l ∧ l.length = 18 ∧ l.all (fun s => decide (1 ≤ s.length ∧ s.length ≤ 8) && s.cps.toList.all fun c => decide (97 ≤ c ∧ c ≤ 122)) = true := by
  refine ⟨_, if_pos (by decide +kernel), by decide +kernel, by decide +kernel⟩
theorem words_nm : ∃ l, pSplit wordS " " = some l ∧ l.length = 18 ∧ ∀ s ∈ l, Nm s := by
  obtain ⟨l, h1, h2, h3⟩ := words_split
  refine ⟨l, h1, h2, fun s hs => ?_⟩
  have := List.all_eq_true.mp h3 s hs
  rw [Bool.and_eq_true] at this
  have h4 := of_decide_eq_true this.1
  refine ⟨h4.1, h4.2, fun c hc => ?_⟩
  exact of_decide_eq_true (List.all_eq_true.mp this.2 c hc)
theorem app_len (a b : Str) : (a ++ b).length = a.length + b.length := by
  show (a.cps ++ b.cps).size = a.cps.size + b.cps.size
  simp
theorem app_list (a b : Str) : (a ++ b).cps.toList = a.cps.toList ++ b.cps.toList := by
  show (a.cps ++ b.cps).toList = _
  simp
theorem app_Lt {a b : Str} (ha : Lt a) (hb : Lt b) : Lt (a ++ b) := fun c hc => by
  rw [app_list] at hc
  rcases List.mem_append.mp hc with h | h
  · exact ha c h
  · exact hb c h
theorem join_ones : ∀ l : List Str, (∀ s ∈ l, s.length = 1 ∧ Lt s) → (Str.join "" l).length = l.length ∧ Lt (Str.join "" l) ∧ (l.map (·.length)).sum = l.length
  | [], _ => ⟨rfl, fun c hc => by simp [Str.join, Str.empty] at hc, rfl⟩
  | [x], h => ⟨(h x List.mem_cons_self).1, (h x List.mem_cons_self).2, by simp [(h x List.mem_cons_self).1]⟩
  | x :: y :: l, h => by
    obtain ⟨h1, h2, h3⟩ := join_ones (y :: l) fun s hs => h s (List.mem_cons_of_mem _ hs)
    obtain ⟨h4, h5⟩ := h x List.mem_cons_self
    have e : Str.join "" (x :: y :: l) = x ++ ("" : Str) ++ Str.join "" (y :: l) := rfl
    have e0 : ("" : Str).length = 0 := by decide +kernel
    have e1 : Lt ("" : Str) := fun c hc => by
      have : ("" : Str).cps.toList = [] := by decide +kernel
      rw [this] at hc
      cases hc
    refine ⟨?_, ?_, ?_⟩
    · rw [e, app_len, app_len, h1, h4, e0]
      simp
      omega
    · rw [e]
      exact app_Lt (app_Lt h5 e1) h2
    · rw [List.map_cons, List.sum_cons, h3, h4]
      simp
      omega
theorem join_wp {l : List Str} (h : ∀ s ∈ l, s.length = 1 ∧ Lt s) (hl : l.length ≤ 8) : Wp (pJoin "" l) fun z => z.length = l.length ∧ Lt z := by
  obtain ⟨h1, h2, h3⟩ := join_ones l h
  have e0 : ("" : Str).length = 0 := by decide +kernel
  refine ⟨_, if_pos (by rw [h3, e0]; omega), ?_⟩
  show (Txt.join _ l).length = _ ∧ Lt (Txt.join _ l)
  rw [TL.join_eq]
  exact ⟨h1, h2⟩
theorem cut6_len (z : Str) : (cutS z none (some 6)).length = min 6 z.length ∧ (cutS z none (some 6)).cps.toList = z.cps.toList.take 6 := by
  have h := HT.sIx_nat z.length z.length 6
  have h2 : (cutS z none (some 6)).cps.toList = z.cps.toList.take 6 := by
    unfold cutS
    rw [HT.sIx_none, show ((6 : Int)) = ((6 : Nat) : Int) from rfl, h]
    simp only [List.drop_zero, Nat.sub_zero]
    have hz : z.cps.toList.length = z.length := by simp [Str.length]
    by_cases h6 : 6 ≤ z.length
    · rw [Nat.min_eq_left h6]
    · rw [Nat.min_eq_right (by omega), List.take_of_length_le (by omega), List.take_of_length_le (by omega)]
  refine ⟨?_, h2⟩
  have : (cutS z none (some 6)).length = (cutS z none (some 6)).cps.toList.length := by simp [Str.length]
  rw [this, h2, List.length_take]
  simp [Str.length]
theorem unlike_b {found : List Str} {x : Int} {z : Str} (hz : Nm z) (hx : 0 ≤ x ∧ x < 676) : Wp (P_w_names_b4 abc found x z) fun r => Nm r ∧ (z ∉ found → r = z) ∧ (z ∈ found → ∃ p a b : Str, r = p ++ a ++ b ∧ p = cutS z none (some 6) ∧ a = ⟨#[(x / 26).toNat + 97]⟩ ∧ b = ⟨#[(x % 26).toNat + 97]⟩) := by
  unfold P_w_names_b4
  have h1 := Int.emod_nonneg x (b := 26) (by omega)
  have h2 := Int.emod_lt_of_pos x (b := 26) (by omega)
  obtain ⟨c1, c2⟩ := cut6_len z
  have hlt : Lt (cutS z none (some 6)) := fun c hc => by
    rw [c2] at hc
    exact hz.lt c (List.mem_of_mem_take hc)
  have o1 : Lt ⟨#[(x / 26).toNat + 97]⟩ := fun c hc => by
    simp at hc
    omega
  have o2 : Lt ⟨#[(x % 26).toNat + 97]⟩ := fun c hc => by
    simp at hc
    omega
  have hzl := hz.lo
  refine wp_bind (R := fun r => Nm r ∧ (z ∉ found → r = z) ∧ (z ∈ found → ∃ p a b : Str, r = p ++ a ++ b ∧ p = cutS z none (some 6) ∧ a = ⟨#[(x / 26).toNat + 97]⟩ ∧ b = ⟨#[(x % 26).toNat + 97]⟩)) ?_ fun r hr => wp_some hr
  refine wp_ifd (fun h => ?_) (fun h => wp_some ⟨hz, fun _ => rfl, fun q => absurd q h⟩)
  refine wp_be (if_pos (by have := hz.hi; omega)) ?_
  refine wp_be (abc_ix (by omega) (by omega)) ?_
  refine wp_be (if_pos (by rw [c1, one_len]; omega)) ?_
  refine wp_be (abc_ix (by omega) (by omega)) ?_
  refine wp_be (if_pos (by rw [app_len, c1, one_len, one_len]; omega)) ?_
  refine wp_some ⟨⟨?_, ?_, app_Lt (app_Lt hlt o1) o2⟩, fun q => absurd h q, fun _ => ⟨_, _, _, rfl, rfl, rfl, rfl⟩⟩
  · rw [app_len, app_len, c1, one_len, one_len]; omega
  · rw [app_len, app_len, c1, one_len, one_len]; omega
def sval (z : Str) : Nat := match z.cps.toList.reverse with
  | b :: a :: _ => (a - 97) * 26 + (b - 97)
  | _ => 0
theorem unlike_loop {found : List Str} {z0 : Str} (hz : Nm z0) (hf : found.length ≤ 600) : Wp (forP (P_w_names_b4 abc found) (rangeI 676) z0) fun z => Nm z ∧ z ∉ found := by
  refine wp_mono (wp_loop (I := fun j z => Nm z ∧ (z ∈ found → ∃ L : List Str, L.length = j ∧ L.Nodup ∧ ∀ s ∈ L, s ∈ found ∧ sval s < j)) ⟨hz, fun _ => ⟨[], rfl, by simp, by simp⟩⟩ ?_) fun z h => ⟨h.1, fun hm => ?_⟩
  · intro j y s hy ⟨hs, hL⟩
    have hj := rangeI_get hy
    have hj2 := hj.2
    have hj1 : y = (j : Int) := hj.1
    refine wp_mono (unlike_b hs (by omega)) fun r hr => ⟨hr.1, fun hm => ?_⟩
    by_cases hin : s ∈ found
    · obtain ⟨L, l1, l2, l3⟩ := hL hin
      obtain ⟨p, a, b, e, _, rfl, rfl⟩ := hr.2.2 hin
      have hv : sval r = j := by
        unfold sval
        rw [e, app_list, app_list, List.reverse_append, List.reverse_append]
        show ((y / 26).toNat + 97 - 97) * 26 + ((y % 26).toNat + 97 - 97) = j
        omega
      refine ⟨r :: L, by rw [List.length_cons, l1], List.nodup_cons.mpr ⟨fun z => ?_, l2⟩, fun t ht => ?_⟩
      · have := (l3 r z).2
        omega
      · rcases List.mem_cons.mp ht with rfl | ht
        · exact ⟨hm, by omega⟩
        · have := l3 t ht
          exact ⟨this.1, by omega⟩
    · have := hr.2.1 hin
      rw [this] at hm
      exact absurd hm hin
  · obtain ⟨L, l1, l2, l3⟩ := h.2 hm
    have := nodup_le l2 fun s hs => (l3 s hs).1
    rw [l1, rangeI_len] at this
    omega
theorem name_b {found : List Str} {b : List Int} {n x : Int} (h : Bok b n) (hn : n + 100 < 2147483648) (hf : found.length ≤ 600) : Wp (P_w_names_b6 abc wordS x (b, found)) fun r => (∃ z, r.2 = found ++ [z] ∧ Nm z ∧ z ∉ found) ∧ Bok r.1 (n + 12) := by
  unfold P_w_names_b6
  refine wp_bind (take_wp h (by omega) (m := 4) (by omega)) fun r3 h3 => ?_
  refine wp_bind (ix_menu (by omega) (by simp; omega)) fun t4 h4 => ?_
  simp at h4
  refine wp_be (rng_eq (by omega)) ?_
  refine wp_be (gd_eq (by rw [rangeI_len]; omega)) ?_
  refine wp_bind (mapS_w (fun s : Str => s.length = 1 ∧ Lt s) (fun j s => Bok s (n + 1 + (j : Int))) (h3.2.mono (by omega)) ?_) fun l9 h9 => ?_
  · intro j y s hy hs
    have hj := (rangeI_get hy).2
    unfold P_w_names_l2
    refine wp_bind (take_wp hs (by omega) (m := 26) (by omega)) fun r7 h7 => ?_
    refine wp_be (abc_ix (by omega) (by omega)) ?_
    refine wp_some ⟨⟨one_len _, fun c hc => ?_⟩, h7.2.mono (by omega)⟩
    simp at hc
    omega
  rw [rangeI_len] at h9
  obtain ⟨h91, h92, h93⟩ := h9
  refine wp_bind (join_wp h92 (by omega)) fun t10 h10 => ?_
  refine wp_bind (take_wp h93 (by omega) (m := 12) (by omega)) fun r11 h11 => ?_
  refine wp_bind (R := fun z => Nm z.2 ∧ Bok z.1 (n + 12)) ?_ fun z12 h12 => ?_
  · refine wp_if (fun _ => ?_) (fun _ => ?_)
    · obtain ⟨l, e1, e2, e3⟩ := words_nm
      refine wp_be e1 ?_
      refine wp_bind (take_wp h11.2 (by omega) (m := 18) (by omega)) fun r14 h14 => ?_
      refine wp_bind (ix_wp (by omega) (by omega)) fun t15 h15 => ?_
      exact wp_some ⟨e3 t15 h15.2, h14.2.mono (by omega)⟩
    · have hL := h10.1
      rw [h91] at hL
      exact wp_some ⟨⟨by show 1 ≤ t10.length; omega, by show t10.length ≤ 8; omega, h10.2⟩, h11.2.mono (by omega)⟩
  refine wp_be (rng_eq (by (try dsimp only); omega)) ?_
  refine wp_bind (unlike_loop h12.1 hf) fun s hs => ?_
  refine wp_be (app_eq (by (try dsimp only); omega)) ?_
  exact wp_some ⟨⟨s, rfl, hs.1, hs.2⟩, h12.2⟩
theorem names_wp2 {b : List Int} {n m : Int} (h : Bok b n) (hm : 0 ≤ m ∧ m ≤ 600) (hn : n + 12 * m + 100 < 2147483648) : Wp (P_w_names b m) fun r => ((r.1.length = m.toNat ∧ ∀ s ∈ r.1, Nm s) ∧ r.1.Nodup) ∧ Bok r.2 (n + 12 * m) := by
  unfold P_w_names
  refine wp_let ?_
  refine wp_be (rng_eq (by omega)) ?_
  refine wp_bind (wp_loop (I := fun j s => ((s.2.length = j ∧ ∀ z ∈ s.2, Nm z) ∧ s.2.Nodup) ∧ Bok s.1 (n + 12 * (j : Int))) ⟨⟨⟨rfl, by simp⟩, by simp⟩, h.mono (by omega)⟩ ?_) fun s hs => wp_some ?_
  · rintro j x ⟨b, found⟩ hx ⟨⟨⟨h1, h2⟩, hN⟩, h3⟩
    have hj := rangeI_get hx
    dsimp only at h1 h2 hN h3
    refine wp_mono (name_b h3 (by omega) (by omega)) fun r hr => ?_
    obtain ⟨⟨z, e1, e2, eN⟩, e3⟩ := hr
    refine ⟨⟨⟨by rw [e1, List.length_append, h1]; rfl, fun y hy => ?_⟩, ?_⟩, e3.mono (by omega)⟩
    · rw [e1] at hy
      rcases List.mem_append.mp hy with hy | hy
      · exact h2 y hy
      · rw [List.mem_singleton] at hy
        rw [hy]; exact e2
    · rw [e1, List.nodup_append]
      exact ⟨hN, by simp, fun a ha b hb e => eN (by rw [List.mem_singleton] at hb; rw [← hb, ← e]; exact ha)⟩
  · rw [rangeI_len] at hs
    exact ⟨hs.1, hs.2.mono (by omega)⟩
structure Lay (d : PyData) (k : Nat) : Prop where
  can : PyData.canLay0 d = true
  dep : PyData.depth d ≤ k
theorem Lay.mono {d : PyData} {k l : Nat} (h : Lay d k) (e : k ≤ l) : Lay d l := ⟨h.can, Nat.le_trans h.dep e⟩
theorem layI (i : Int) : Lay (.int i) 0 := ⟨by simp [PyData.canLay0], by simp [PyData.depth]⟩
theorem layS {x : Str} (h : PyData.strOk x = true) : Lay (.str x) 0 := ⟨by simpa [PyData.canLay0] using h, by simp [PyData.depth]⟩
theorem layAll {ds : List PyData} {k : Nat} (h : ∀ d ∈ ds, Lay d k) : PyData.canLayAll0 ds = true ∧ PyData.depthAll ds ≤ k := by
  induction ds with
  | nil => exact ⟨by simp [PyData.canLayAll0], by simp [PyData.depthAll]⟩
  | cons d ds ih =>
    obtain ⟨h1, h2⟩ := ih fun x hx => h x (List.mem_cons_of_mem _ hx)
    obtain ⟨h3, h4⟩ := h d List.mem_cons_self
    refine ⟨by simp [PyData.canLayAll0, h1, h3], ?_⟩
    simp only [PyData.depthAll]
    omega
theorem layL {ds : List PyData} {k : Nat} (h : ∀ d ∈ ds, Lay d k) : Lay (.list ds) (k + 1) := by
  obtain ⟨h1, h2⟩ := layAll h
  refine ⟨by simpa [PyData.canLay0] using h1, ?_⟩
  simp only [PyData.depth]
  omega
theorem layT {ds : List PyData} {k : Nat} (h : ∀ d ∈ ds, Lay d k) : Lay (.tuple ds) (k + 1) := by
  obtain ⟨h1, h2⟩ := layAll h
  refine ⟨by simpa [PyData.canLay0] using h1, ?_⟩
  simp only [PyData.depth]
  omega
theorem Lay.shaped {d : PyData} {k : Nat} (h : Lay d k) (hk : k ≤ 64) : SeqAt.shaped d = true := by
  obtain ⟨h1, h2⟩ := h
  simp only [SeqAt.shaped, h1, Bool.true_and, decide_eq_true_eq]
  omega
theorem eq_eq {α : Type} [DecidableEq α] {e : α → PyData} {neg : Bool} {x y : α} {k l : Nat} (h1 : Lay (e x) k) (h2 : Lay (e y) l) (hk : k ≤ 64) (hl : l ≤ 64) : pEq e neg x y = some (neg ^^ decide (x = y)) := by
  unfold pEq
  rw [h1.shaped hk, h2.shaped hl]
  rfl
theorem isi_LL {l : List PyData} : pIsi "list" (.list l) = some true := kit_list_list
theorem isi_TL {l : List PyData} : pIsi "tuple" (.list l) = some false := kit_list_tuple
theorem isi_LT {l : List PyData} : pIsi "list" (.tuple l) = some false := kit_tuple_list
theorem isi_TT {l : List PyData} : pIsi "tuple" (.tuple l) = some true := kit_tuple_tuple
theorem isi2_L {l : List PyData} : pIsi2 "list" "tuple" (.list l) = some true := by
  unfold pIsi2
  show (kitB "list" "list").bind _ = _
  rw [kit_list_list, Option.bind_some]
  show (kitB "list" "tuple").map _ = _
  rw [kit_list_tuple]
  rfl
theorem isi2_T {l : List PyData} : pIsi2 "list" "tuple" (.tuple l) = some true := by
  unfold pIsi2
  show (kitB "tuple" "list").bind _ = _
  rw [kit_tuple_list, Option.bind_some]
  show (kitB "tuple" "tuple").map _ = _
  rw [kit_tuple_tuple]
  rfl
theorem isi2_I {i : Int} : pIsi2 "list" "tuple" (.int i) = some false := by
  unfold pIsi2
  show (kitB "int" "list").bind _ = _
  rw [kit_int_list, Option.bind_some]
  show (kitB "int" "tuple").map _ = _
  rw [kit_int_tuple]
  rfl
theorem isi2_S {i : Str} : pIsi2 "list" "tuple" (.str i) = some false := by
  unfold pIsi2
  show (kitB "str" "list").bind _ = _
  rw [kit_str_list, Option.bind_some]
  show (kitB "str" "tuple").map _ = _
  rw [kit_str_tuple]
  rfl
theorem isi2_B {i : Bool} : pIsi2 "list" "tuple" (.bool i) = some false := by
  unfold pIsi2
  show (kitB "bool" "list").bind _ = _
  rw [kit_bool_list, Option.bind_some]
  show (kitB "bool" "tuple").map _ = _
  rw [kit_bool_tuple]
  rfl
theorem isi2_N : pIsi2 "list" "tuple" .none = some false := by
  unfold pIsi2
  show (kitB "NoneType" "list").bind _ = _
  rw [kit_NoneType_list, Option.bind_some]
  show (kitB "NoneType" "tuple").map _ = _
  rw [kit_NoneType_tuple]
  rfl
theorem isi_BI {i : Int} : pIsi "bool" (.int i) = some false := kit_int_bool
theorem isi_SI {i : Int} : pIsi "str" (.int i) = some false := kit_int_str
theorem isi_II {i : Int} : pIsi "int" (.int i) = some true := kit_int_int
theorem isi_BS {i : Str} : pIsi "bool" (.str i) = some false := kit_str_bool
theorem isi_SS {i : Str} : pIsi "str" (.str i) = some true := kit_str_str
theorem isi_BB {i : Bool} : pIsi "bool" (.bool i) = some true := kit_bool_bool
inductive Sm : Nat → PyData → Prop
  | non : Sm 0 .none
  | int (i : Int) : Sm 0 (.int i)
  | str (x : Str) : Sm 0 (.str x)
  | bool (b : Bool) : Sm 0 (.bool b)
  | lst {k : Nat} {ds : List PyData} : ds.length ≤ 100000 → (∀ d ∈ ds, Sm k d) → Sm (k + 1) (.list ds)
  | tup {k : Nat} {ds : List PyData} : ds.length ≤ 100000 → (∀ d ∈ ds, Sm k d) → Sm (k + 1) (.tuple ds)
  | up {k : Nat} {d : PyData} : Sm k d → Sm (k + 1) d
theorem same_some {k : Nat} {d : PyData} (h : Sm k d) : ∀ n, k < n → P_w_same n d d = some true := by
  have hz : ∀ (n : Nat) (ds : List PyData), (∀ d ∈ ds, P_w_same n d d = some true) → ∀ (f : PyData × PyData → Option Bool), (∀ x, f x = (P_w_same n x.1 x.2).bind fun r => some r) → mapO f (ds.zip ds) = some ((ds.zip ds).map fun _ => true) := fun n ds hd f hf => by
    refine mapO_eq fun x hx => ?_
    have h1 : x.1 = x.2 ∧ x.1 ∈ ds := by
      obtain ⟨i, hi, rfl⟩ := List.getElem_of_mem hx
      rw [List.getElem_zip]
      exact ⟨rfl, List.getElem_mem _⟩
    rw [hf, ← h1.1, hd _ h1.2]
    rfl
  have hall : ∀ l : List (PyData × PyData), (l.map fun _ => true).all id = true := fun l => all_trues fun b hb => by
    obtain ⟨_, _, rfl⟩ := List.mem_map.mp hb
    rfl
  induction h with
  | non =>
    intro n hn
    obtain ⟨m, rfl⟩ : ∃ m, n = m + 1 := ⟨n - 1, by omega⟩
    show P_w_same_0 _ _ _ = _
    unfold P_w_same_0
    rw [isi2_N]
    rfl
  | int i =>
    intro n hn
    obtain ⟨m, rfl⟩ : ∃ m, n = m + 1 := ⟨n - 1, by omega⟩
    show P_w_same_0 _ _ _ = _
    unfold P_w_same_0
    have : pEqD false (.int i) (.int i) = some true := by simp [pEqD, scalD, PyData.eqv]
    simp [isi2_I, pIsN, isNoneD, isi_BI, isi_SI, isi_II, this]
  | str i =>
    intro n hn
    obtain ⟨m, rfl⟩ : ∃ m, n = m + 1 := ⟨n - 1, by omega⟩
    show P_w_same_0 _ _ _ = _
    unfold P_w_same_0
    have : pEqD false (.str i) (.str i) = some true := by simp [pEqD, scalD, PyData.eqv]
    simp [isi2_S, pIsN, isNoneD, isi_BS, isi_SS, this]
  | bool i =>
    intro n hn
    obtain ⟨m, rfl⟩ : ∃ m, n = m + 1 := ⟨n - 1, by omega⟩
    show P_w_same_0 _ _ _ = _
    unfold P_w_same_0
    have : pEqD false (.bool i) (.bool i) = some true := by simp [pEqD, scalD, PyData.eqv]
    simp [isi2_B, pIsN, isNoneD, isi_BB, this]
  | @lst k ds hl hd ih =>
    intro n hn
    obtain ⟨m, rfl⟩ : ∃ m, n = m + 1 := ⟨n - 1, by omega⟩
    have hm := hz m ds (fun d h => ih d h m (by omega)) (P_w_same_l2 (P_w_same m)) fun x => rfl
    show P_w_same_0 _ _ _ = _
    unfold P_w_same_0
    have hzl : (ds.zip ds).length ≤ 100000 := by rw [List.length_zip]; omega
    simp only [isi2_L, isi_LL, isi_TL, Option.bind_some, if_true, pLenD, pZipA, gd_eq hzl, hm, hall]
    simp
  | @tup k ds hl hd ih =>
    intro n hn
    obtain ⟨m, rfl⟩ : ∃ m, n = m + 1 := ⟨n - 1, by omega⟩
    have hm := hz m ds (fun d h => ih d h m (by omega)) (P_w_same_l2 (P_w_same m)) fun x => rfl
    show P_w_same_0 _ _ _ = _
    unfold P_w_same_0
    have hzl : (ds.zip ds).length ≤ 100000 := by rw [List.length_zip]; omega
    simp only [isi2_T, isi_LT, isi_TT, Option.bind_some, if_true, pLenD, pZipA, gd_eq hzl, hm, hall]
    simp
  | up _ ih => intro n hn; exact ih n (by omega)
theorem eqD_self {d : PyData} {k : Nat} {neg : Bool} (h : Lay d k) (hk : k ≤ 64) : pEqD neg d d = some (neg ^^ true) := by
  unfold pEqD
  rw [h.shaped hk, PySem.SeqAt.eqv_refl d h.can]
  simp
theorem sortB_of {α : Type} {e : α → PyData} {l : List α} (hl : l.length ≤ 100000) (h1 : (∀ x ∈ l, tupB (e x) = true) ∨ ∀ x ∈ l, othB (e x) = true) (h2 : ∀ x ∈ l, ∀ y ∈ l, PySem.W.alike (e x) (e y) = true) (h3 : ∀ x ∈ l, Lay (e x) 60) : sortB (l.map e) = true := by
  unfold sortB
  have g2 : alikeB (l.map e) = true := by
    unfold alikeB
    rw [List.all_map, List.all_eq_true]
    intro x hx
    show ((l.map e).all fun d' => PySem.W.alike (e x) d') = true
    rw [List.all_map, List.all_eq_true]
    exact fun y hy => h2 x hx y hy
  have g3 : (l.map e).all (fun d => d.canLay0 && decide (d.depth ≤ 60)) = true := by
    rw [List.all_map, List.all_eq_true]
    intro x hx
    obtain ⟨q1, q2⟩ := h3 x hx
    simp [q1, q2]
  have g1 : ((l.map e).all tupB || (l.map e).all othB) = true := by
    rw [Bool.or_eq_true, List.all_map, List.all_map, List.all_eq_true, List.all_eq_true]
    exact h1
  simp only [g1, g2, g3, Bool.true_and, List.length_map, decide_eq_true_eq]
  exact hl
theorem mapO_map {α β γ : Type} {f : β → Option γ} {g : α → β} : ∀ l : List α, mapO f (l.map g) = mapO (fun x => f (g x)) l
  | [] => rfl
  | x :: l => by
    show (f (g x)).bind (fun y => (mapO f (l.map g)).map (y :: ·)) = (f (g x)).bind (fun y => (mapO (fun x => f (g x)) l).map (y :: ·))
    rw [mapO_map l]
theorem rng3_down {i : Int} (h : -1 ≤ i ∧ i < 100000) : ∃ l, pRng3 i 0 (-1) = some l ∧ ∀ x ∈ l, 0 < x ∧ x ≤ i := by
  refine ⟨_, if_pos ⟨by decide, PySem.W.small_down (by omega) (by omega) (by omega) (by omega)⟩, fun x hx => ?_⟩
  obtain ⟨k, hk, rfl⟩ := List.mem_map.mp hx
  rw [List.mem_range] at hk
  unfold Builtin.Range.rangeSize at hk
  rw [if_neg (by decide)] at hk
  split at hk
  · rw [show (-(-1 : Int)) = 1 by decide, Int.ediv_one] at hk
    omega
  · simp at hk
theorem swap_perm {α : Type} {l : List α} {i j : Nat} {a b : α} (hi : l[i]? = some a) (hj : l[j]? = some b) : ((l.set i b).set j a).Perm l := by
  obtain ⟨h1, e1⟩ := List.getElem?_eq_some_iff.mp hi
  obtain ⟨h2, e2⟩ := List.getElem?_eq_some_iff.mp hj
  subst e1 e2
  exact List.set_set_perm h1 h2
theorem strewn_gen {α : Type} {f : Int → (List Int × List α) → Option (List Int × List α)} (hf : ∀ x ss, f x ss = (P_w_take ss.1 (x + 1)).bind fun r2 => (pIx ss.2 r2.1).bind fun t3 => (pIx ss.2 x).bind fun t4 => (pSet ss.2 x t3).bind fun found5 => (pSet found5 r2.1 t4).bind fun found6 => some (r2.2, found6))
    {b : List Int} {n : Int} {l : List α} (h : Bok b n) (hn : n + 200 < 2147483648) (hl : l.length ≤ 100) : Wp ((pRng3 ((l.length : Int) - 1) 0 (-1)).bind fun l1 => (forP f l1 (b, l)).bind fun s7 => some (s7.2, s7.1)) fun r => r.1.Perm l ∧ Bok r.2 (n + 100) := by
  have hl3 : ∃ l1, pRng3 ((l.length : Int) - 1) 0 (-1) = some l1 ∧ (∀ x ∈ l1, 0 < x ∧ x ≤ (l.length : Int) - 1) ∧ l1.length ≤ 100 := by
    obtain ⟨l1, e, h1⟩ := rng3_down (i := (l.length : Int) - 1) (by omega)
    refine ⟨l1, e, h1, ?_⟩
    unfold pRng3 at e
    split at e
    · cases e
      rw [List.length_map, List.length_range]
      unfold Builtin.Range.rangeSize
      rw [if_neg (by decide)]
      split
      · rw [show (-(-1 : Int)) = 1 by decide, Int.ediv_one]; omega
      · simp
    · cases e
  obtain ⟨l1, e, h1, h2⟩ := hl3
  refine wp_be e ?_
  refine wp_bind (wp_loop (I := fun j s => s.2.Perm l ∧ Bok s.1 (n + (j : Int))) ⟨.refl _, h.mono (by omega)⟩ ?_) fun s hs => wp_some ⟨hs.1, hs.2.mono (by omega)⟩
  rintro j x s hx ⟨hp, hB⟩
  have hj := (List.getElem?_eq_some_iff.mp hx).1
  have hx1 := h1 x (List.mem_of_getElem? hx)
  have hlen := hp.length_eq
  rw [hf]
  refine wp_bind (take_wp hB (by omega) (m := x + 1) (by omega)) fun r2 h2 => ?_
  refine wp_bind (ix_wp (by omega) (by omega)) fun t3 h3 => ?_
  refine wp_bind (ix_wp (by omega) (by omega)) fun t4 h4 => ?_
  refine wp_be (set_eq (by omega) (by omega)) ?_
  refine wp_be (set_eq (by omega) (by rw [List.length_set]; omega)) ?_
  exact wp_some ⟨(swap_perm h4.1 h3.1).trans hp, h2.2.mono (by omega)⟩
theorem put_keys {β : Type} (D : List (Str × β)) (k : Str) (v : β) : (putL D k v).map (·.1) = if k ∈ D.map (·.1) then D.map (·.1) else D.map (·.1) ++ [k] := by
  unfold putL
  by_cases h : k ∈ D.map (·.1)
  · have h2 : (D.any fun p => decide (p.1 = k)) = true := by
      obtain ⟨p, hp, e⟩ := List.mem_map.mp h
      exact List.any_eq_true.mpr ⟨p, hp, by simpa using e⟩
    rw [if_pos h2, if_pos h, List.map_map]
    refine List.map_congr_left fun p _ => ?_
    show (if p.1 = k then (p.1, v) else p).1 = p.1
    split <;> rfl
  · have h2 : ¬ (D.any fun p => decide (p.1 = k)) = true := fun z => by
      obtain ⟨p, hp, e⟩ := List.any_eq_true.mp z
      exact h (List.mem_map.mpr ⟨p, hp, by simpa using e⟩)
    rw [if_neg h2, if_neg h, List.map_append]
    rfl
theorem put_nodup {β : Type} {D : List (Str × β)} {k : Str} {v : β} (h : (D.map (·.1)).Nodup) : ((putL D k v).map (·.1)).Nodup := by
  rw [put_keys]
  split
  · exact h
  · rename_i hk
    rw [List.nodup_append]
    exact ⟨h, by simp, fun a ha b hb e => hk (by rw [List.mem_singleton] at hb; subst hb; subst e; exact ha)⟩
theorem put_len {β : Type} (D : List (Str × β)) (k : Str) (v : β) : (putL D k v).length ≤ D.length + 1 := by
  unfold putL
  split <;> simp
theorem look_mem {β : Type} {D : List (Str × β)} (h : (D.map (·.1)).Nodup) {p : Str × β} (hp : p ∈ D) : look D p.1 = some p.2 := by
  induction D with
  | nil => simp at hp
  | cons q D ih =>
    rw [List.map_cons, List.nodup_cons] at h
    unfold look
    rw [List.find?_cons]
    by_cases e : q.1 = p.1
    · rcases List.mem_cons.mp hp with rfl | hp
      · simp
      · exact absurd (List.mem_map.mpr ⟨p, hp, e.symm⟩) h.1
    · rcases List.mem_cons.mp hp with rfl | hp
      · exact absurd rfl e
      · simp only [e, decide_false]
        exact ih h.2 hp
theorem look_some {β : Type} {D : List (Str × β)} {k : Str} {v : β} (h : look D k = some v) : (k, v) ∈ D := by
  unfold look at h
  obtain ⟨p, hp, e⟩ := Option.map_eq_some_iff.mp h
  have h1 := List.mem_of_find?_eq_some hp
  have h2 := List.find?_some hp
  simp only [decide_eq_true_eq] at h2
  subst h2
  subst e
  exact h1
def leS (a b : Str) : Bool := PySem.W.dataLe false eS a b
theorem leS_eq (a b : Str) : leS a b = !decide (b.cps.toList < a.cps.toList) := by
  show (!PySem.W.dataLt (.str b) (.str a)) = _
  rw [PySem.W.dataLt_str]
theorem leS_trans (a b c : Str) (h1 : leS a b = true) (h2 : leS b c = true) : leS a c = true := by
  rw [leS_eq] at *
  simp only [Bool.not_eq_true', decide_eq_false_iff_not, List.not_lt] at *
  exact List.le_trans h1 h2
theorem leS_total (a b : Str) : (leS a b || leS b a) = true := by
  rw [leS_eq, leS_eq]
  simp only [Bool.or_eq_true, Bool.not_eq_true', decide_eq_false_iff_not, List.not_lt]
  exact List.le_total _ _
theorem leT {a b : Str} {x y : List PyData} (hne : a ≠ b) : (!PySem.W.dataLt (.tuple (.str b :: y)) (.tuple (.str a :: x))) = leS a b := by
  have e : PyData.eqv (.str b) (.str a) = false := by
    simp only [PyData.eqv, beq_eq_false_iff_ne]
    exact fun z => hne z.symm
  rw [PySem.W.dataLt_tuple, PySem.W.dataLt_all_no (by simp [PySem.W.alike]) e]
  rfl
theorem sort_eq {α : Type} {e : α → PyData} {l : List α} (h : sortB (l.map e) = true) : pSort e l = some (l.mergeSort (PySem.W.dataLe false e)) := if_pos h
def leK {β : Type} (p q : Str × β) : Bool := leS p.1 q.1
abbrev Way := Str × Str × Str × Str × Int
def goes (w : Way) (x y : Str) : Prop := (w.2.1 = x ∧ w.2.2.1 = y) ∨ (w.2.2.1 = x ∧ w.2.1 = y)
inductive Wk (ways : List Way) (c : Str) : Nat → Str → Int → Prop
  | nil : Wk ways c 0 c 0
  | step {k : Nat} {x y : Str} {h : Int} {w : Way} : Wk ways c k x h → w ∈ ways → goes w x y → Wk ways c (k + 1) y (h + w.2.2.2.2)
def Pos (ways : List Way) : Prop := ∀ w ∈ ways, 1 ≤ w.2.2.2.2
theorem Wk.low {ways : List Way} {c : Str} (P : Pos ways) {k : Nat} {x : Str} {h : Int} (g : Wk ways c k x h) : (k : Int) ≤ h := by
  induction g with
  | nil => exact Int.le_refl 0
  | @step k x y h w g hw _ ih => have := P w hw; omega
structure Ht (ways : List Way) (c x : Str) (h : Int) : Prop where
  got : ∃ k, Wk ways c k x h
  low : ∀ k h', Wk ways c k x h' → h ≤ h'
theorem Ht.uniq {ways : List Way} {c x : Str} {h h' : Int} (a : Ht ways c x h) (b : Ht ways c x h') : h = h' := by
  obtain ⟨k, g⟩ := a.got
  obtain ⟨k', g'⟩ := b.got
  have := a.low _ _ g'
  have := b.low _ _ g
  omega
theorem Ht.ex {ways : List Way} {c x : Str} (P : Pos ways) {k : Nat} {h : Int} (g : Wk ways c k x h) : ∃ h0, Ht ways c x h0 := by
  have key : ∀ n : Nat, ∀ k h, Wk ways c k x h → h.toNat ≤ n → ∃ h0, Ht ways c x h0 := by
    intro n
    induction n with
    | zero =>
      intro k h g hn
      refine ⟨h, ⟨k, g⟩, fun k' h' g' => ?_⟩
      have := g'.low P
      have := g.low P
      omega
    | succ n ih =>
      intro k h g hn
      by_cases hc : ∃ k' h', Wk ways c k' x h' ∧ h' < h
      · obtain ⟨k', h', g', hl⟩ := hc
        have := g'.low P
        exact ih k' h' g' (by omega)
      · refine ⟨h, ⟨k, g⟩, fun k' h' g' => ?_⟩
        rcases Int.lt_or_le h' h with q | q
        · exact absurd ⟨k', h', g', q⟩ hc
        · exact q
  exact key h.toNat k h g (Nat.le_refl _)
theorem Ht.nn {ways : List Way} {c x : Str} {h : Int} (P : Pos ways) (a : Ht ways c x h) : 0 ≤ h := by
  obtain ⟨k, g⟩ := a.got
  have := g.low P
  omega
theorem Ht.self {ways : List Way} {c : Str} (P : Pos ways) : Ht ways c c 0 := ⟨⟨0, .nil⟩, fun k h' g => by have := g.low P; omega⟩
theorem Ht.back {ways : List Way} {c x : Str} {h : Int} (P : Pos ways) (a : Ht ways c x h) : (x = c ∧ h = 0) ∨ ∃ w y h', w ∈ ways ∧ goes w y x ∧ Ht ways c y h' ∧ h = h' + w.2.2.2.2 := by
  obtain ⟨k, g⟩ := a.got
  cases g with
  | nil => exact .inl ⟨rfl, rfl⟩
  | @step k y _ h1 w g hw hg =>
    refine .inr ⟨w, y, h1, hw, hg, ⟨⟨k, g⟩, fun k' h2 g2 => ?_⟩, rfl⟩
    have := a.low _ _ (Wk.step g2 hw hg)
    omega
inductive Tw (ways : List Way) (c : Str) : Str → Int → List Way → Prop
  | nil : Tw ways c c 0 []
  | step {x y : Str} {h : Int} {w : Way} {ws : List Way} : Tw ways c x h ws → w ∈ ways → goes w x y → Ht ways c y (h + w.2.2.2.2) → Tw ways c y (h + w.2.2.2.2) (w :: ws)
theorem Tw.ht {ways : List Way} {c x : Str} {h : Int} {ws : List Way} (P : Pos ways) (g : Tw ways c x h ws) : Ht ways c x h := by
  cases g with
  | nil => exact Ht.self P
  | step _ _ _ a => exact a
theorem Tw.ends {ways : List Way} {c x : Str} {h : Int} {ws : List Way} (P : Pos ways) (g : Tw ways c x h ws) : (∀ w ∈ ws, w ∈ ways ∧ ∀ z, (z = w.2.1 ∨ z = w.2.2.1) → ∃ hz, Ht ways c z hz ∧ hz ≤ h) ∧ ws.Nodup := by
  induction g with
  | nil => exact ⟨by simp, by simp⟩
  | @step x y h w ws g hw hg a ih =>
    have hp := P w hw
    refine ⟨fun v hv => ?_, List.nodup_cons.mpr ⟨fun hm => ?_, ih.2⟩⟩
    · rcases List.mem_cons.mp hv with rfl | hv
      · refine ⟨hw, fun z hz => ?_⟩
        have hx := g.ht P
        rcases hg with ⟨rfl, rfl⟩ | ⟨rfl, rfl⟩
        · rcases hz with rfl | rfl
          · exact ⟨_, hx, by omega⟩
          · exact ⟨_, a, Int.le_refl _⟩
        · rcases hz with rfl | rfl
          · exact ⟨_, a, Int.le_refl _⟩
          · exact ⟨_, hx, by omega⟩
      · obtain ⟨h1, h2⟩ := ih.1 v hv
        refine ⟨h1, fun z hz => ?_⟩
        obtain ⟨hz', b, hle⟩ := h2 z hz
        exact ⟨hz', b, by omega⟩
    · obtain ⟨_, h2⟩ := ih.1 w hm
      have hy : y = w.2.1 ∨ y = w.2.2.1 := hg.elim (fun q => .inr q.2.symm) fun q => .inl q.2.symm
      obtain ⟨hz', b, hle⟩ := h2 y hy
      have := a.uniq b
      omega
theorem Tw.ex {ways : List Way} {c : Str} (P : Pos ways) : ∀ (n : Nat) (x : Str) (h : Int), h.toNat ≤ n → Ht ways c x h → ∃ ws, Tw ways c x h ws
  | n, x, h, hn, a => by
    rcases a.back P with ⟨rfl, rfl⟩ | ⟨w, y, h', hw, hg, b, rfl⟩
    · exact ⟨[], .nil⟩
    · have hp := P w hw
      have hb := b.nn P
      cases n with
      | zero => omega
      | succ n =>
        obtain ⟨ws, g⟩ := Tw.ex P n y h' (by omega) b
        exact ⟨w :: ws, .step g hw hg a⟩
theorem Tw.len {ways : List Way} {c x : Str} {h : Int} {ws : List Way} (P : Pos ways) (g : Tw ways c x h ws) : ws.length ≤ ways.length := nodup_le (g.ends P).2 fun w hw => ((g.ends P).1 w hw).1
theorem Tw.wk {ways : List Way} {c x : Str} {h : Int} {ws : List Way} (g : Tw ways c x h ws) : Wk ways c ws.length x h := by
  induction g with
  | nil => exact .nil
  | step _ hw hg _ ih => exact .step ih hw hg
abbrev DH := List (Str × Int)
def SoundD (ways : List Way) (c : Str) (D : DH) : Prop := ∀ x h, look D x = some h → ∃ k, Wk ways c k x h
def LowD (D D' : DH) : Prop := ∀ x h, look D x = some h → ∃ h', look D' x = some h' ∧ h' ≤ h
theorem LowD.refl (D : DH) : LowD D D := fun x h e => ⟨h, e, Int.le_refl _⟩
theorem LowD.trans {A B C : DH} (a : LowD A B) (b : LowD B C) : LowD A C := fun x h e => by
  obtain ⟨h1, e1, l1⟩ := a x h e
  obtain ⟨h2, e2, l2⟩ := b x h1 e1
  exact ⟨h2, e2, by omega⟩
theorem look_put {β : Type} (D : List (Str × β)) (k : Str) (v : β) (x : Str) : look (putL D k v) x = if x = k then some v else look D x := by
  unfold putL
  by_cases hk : (D.any fun p => decide (p.1 = k)) = true
  · rw [if_pos hk]
    unfold look
    induction D with
    | nil => simp at hk
    | cons p D ih =>
      rw [List.map_cons, List.find?_cons, List.find?_cons]
      by_cases hpk : p.1 = k
      · rw [if_pos hpk]
        by_cases hx : x = k
        · subst hx
          simp [hpk]
        · have h1 : decide (p.1 = x) = false := decide_eq_false fun e => hx (e.symm.trans hpk)
          simp only [h1, if_neg hx]
          by_cases hk2 : (D.any fun p => decide (p.1 = k)) = true
          · rw [ih hk2, if_neg hx]
          · have hm : D.map (fun p => if p.1 = k then (p.1, v) else p) = D := by
              conv => rhs; rw [← List.map_id D]
              refine List.map_congr_left fun q hq => ?_
              have : ¬ q.1 = k := fun e => hk2 (List.any_eq_true.mpr ⟨q, hq, decide_eq_true e⟩)
              rw [if_neg this]
              rfl
            rw [hm]
      · rw [if_neg hpk]
        have hk2 : (D.any fun p => decide (p.1 = k)) = true := by
          rw [List.any_cons] at hk
          simpa [hpk] using hk
        by_cases hx : p.1 = x
        · have : ¬ x = k := fun e => hpk (hx.trans e)
          simp [hx, this]
        · simp only [decide_eq_false hx]
          exact ih hk2
  · rw [if_neg hk]
    unfold look
    rw [List.find?_append]
    by_cases hx : x = k
    · subst hx
      have hn : D.find? (fun p => decide (p.1 = x)) = none := by
        rw [List.find?_eq_none]
        intro q hq e
        exact hk (List.any_eq_true.mpr ⟨q, hq, e⟩)
      rw [hn, if_pos rfl]
      simp
    · rw [if_neg hx]
      have h1 : decide (k = x) = false := decide_eq_false fun e => hx e.symm
      cases D.find? fun p => decide (p.1 = x) with
      | none => simp [h1]
      | some q => simp
theorem relax_wp {ways : List Way} {c : Str} {w : Way} {x y : Str} {D : DH} (hw : w ∈ ways) (hg : goes w x y) (S : SoundD ways c D) (N : (D.map fun p => p.1).Nodup) (hl : D.length < 100000) : Wp (P_heights_of_b2 w (x, y) D) fun D' => SoundD ways c D' ∧ LowD D D' ∧ (D'.map fun p => p.1).Nodup ∧ D'.length ≤ D.length + 1 ∧ ∀ h, look D x = some h → ∃ h', look D' y = some h' ∧ h' ≤ h + w.2.2.2.2 := by
  unfold P_heights_of_b2
  dsimp only
  cases hx : look D x with
  | none =>
    refine wp_be (v := false) rfl ?_
    refine wp_be (v := D) rfl ?_
    exact wp_some ⟨S, .refl D, N, by omega, fun h e => by cases e⟩
  | some a =>
    have hput : Wp (pPut D y (a + w.2.2.2.2)) fun D' => D' = putL D y (a + w.2.2.2.2) := ⟨_, if_pos hl, rfl⟩
    have good : (∀ b, look D y = some b → a + w.2.2.2.2 < b) → SoundD ways c (putL D y (a + w.2.2.2.2)) ∧ LowD D (putL D y (a + w.2.2.2.2)) ∧ ((putL D y (a + w.2.2.2.2)).map fun p => p.1).Nodup ∧ (putL D y (a + w.2.2.2.2)).length ≤ D.length + 1 ∧ ∀ h, some a = some h → ∃ h', look (putL D y (a + w.2.2.2.2)) y = some h' ∧ h' ≤ h + w.2.2.2.2 := fun hb => by
      refine ⟨fun z h e => ?_, fun z h e => ?_, put_nodup N, put_len _ _ _, fun h e => ⟨_, by rw [look_put, if_pos rfl], by cases e; exact Int.le_refl _⟩⟩
      · rw [look_put] at e
        split at e
        · rename_i hz
          subst hz
          cases e
          obtain ⟨k, g⟩ := S x a hx
          exact ⟨k + 1, .step g hw hg⟩
        · exact S z h e
      · rw [look_put]
        split
        · rename_i hz
          subst hz
          exact ⟨_, rfl, by have := hb h e; omega⟩
        · exact ⟨h, e, Int.le_refl _⟩
    cases hy : look D y with
    | none =>
      refine wp_be (v := true) rfl ?_
      refine wp_be (v := putL D y (a + w.2.2.2.2)) ?_ (wp_some (good fun b e => by rw [hy] at e; cases e))
      show ((pPut D y (a + w.2.2.2.2)).bind fun z => some z) = _
      obtain ⟨_, e, rfl⟩ := hput
      rw [e]
      rfl
    | some b =>
      refine wp_be (v := decide (a + w.2.2.2.2 < b)) rfl ?_
      by_cases hlt : a + w.2.2.2.2 < b
      · rw [decide_eq_true hlt]
        refine wp_be (v := putL D y (a + w.2.2.2.2)) ?_ (wp_some (good fun b' e => by rw [hy] at e; cases e; exact hlt))
        show ((pPut D y (a + w.2.2.2.2)).bind fun z => some z) = _
        obtain ⟨_, e, rfl⟩ := hput
        rw [e]
        rfl
      · rw [decide_eq_false hlt]
        refine wp_be (v := D) rfl ?_
        exact wp_some ⟨S, .refl D, N, by omega, fun h e => ⟨b, hy, by cases e; omega⟩⟩
theorem relax2_wp {ways : List Way} {c : Str} {w : Way} {D : DH} (hw : w ∈ ways) (S : SoundD ways c D) (N : (D.map fun p => p.1).Nodup) (hl : D.length + 2 < 100000) : Wp (P_heights_of_b4 w D) fun D' => SoundD ways c D' ∧ LowD D D' ∧ (D'.map fun p => p.1).Nodup ∧ D'.length ≤ D.length + 2 ∧ ∀ x y h, goes w x y → Ht ways c x h → look D x = some h → ∃ h', look D' y = some h' ∧ h' ≤ h + w.2.2.2.2 := by
  unfold P_heights_of_b4
  refine wp_be (v := ((w.2.1, w.2.2.1), (w.2.2.1, w.2.1))) rfl ?_
  dsimp only
  obtain ⟨D1, e1, s1, l1, n1, z1, g1⟩ := relax_wp (x := w.2.1) (y := w.2.2.1) hw (.inl ⟨rfl, rfl⟩) S N (by omega)
  obtain ⟨D2, e2, s2, l2, n2, z2, g2⟩ := relax_wp (x := w.2.2.1) (y := w.2.1) hw (.inr ⟨rfl, rfl⟩) s1 n1 (by omega)
  refine wp_be (v := D2) ?_ (wp_some ⟨s2, l1.trans l2, n2, by omega, fun x y h hg a e => ?_⟩)
  · show (P_heights_of_b2 w (w.2.1, w.2.2.1) D).bind (fun D1 => (P_heights_of_b2 w (w.2.2.1, w.2.1) D1).bind fun D2 => some D2) = _
    rw [e1, Option.bind_some, e2]
    rfl
  · rcases hg with ⟨rfl, rfl⟩ | ⟨rfl, rfl⟩
    · obtain ⟨h1, q1, q2⟩ := g1 h e
      obtain ⟨h2, q3, q4⟩ := l2 _ _ q1
      exact ⟨h2, q3, by omega⟩
    · obtain ⟨h1, q1, q2⟩ := l1 _ _ e
      obtain ⟨k, g⟩ := s1 _ _ q1
      have := a.low _ _ g
      have e1 : h1 = h := by omega
      subst e1
      exact g2 h1 q1
theorem round_wp {ways : List Way} {c : Str} {r : Nat} {D : DH} (P : Pos ways) (S : SoundD ways c D) (N : (D.map fun p => p.1).Nodup) (hl : D.length + 2 * ways.length + 2 < 100000) (hQ : ∀ x h ws, Tw ways c x h ws → ws.length ≤ r → look D x = some h) :
    Wp (forP P_heights_of_b4 ways D) fun D' => SoundD ways c D' ∧ (D'.map fun p => p.1).Nodup ∧ D'.length ≤ D.length + 2 * ways.length ∧ ∀ x h ws, Tw ways c x h ws → ws.length ≤ r + 1 → look D' x = some h := by
  have key : ∀ (l : List Way) (D1 : DH), (∀ w ∈ l, w ∈ ways) → SoundD ways c D1 → (D1.map fun p => p.1).Nodup → D1.length + 2 * l.length < 100000 → LowD D D1 → Wp (forP P_heights_of_b4 l D1) fun D' => SoundD ways c D' ∧ (D'.map fun p => p.1).Nodup ∧ D'.length ≤ D1.length + 2 * l.length ∧ LowD D1 D' ∧ ∀ w ∈ l, ∀ x y h, goes w x y → Ht ways c x h → look D x = some h → ∃ h', look D' y = some h' ∧ h' ≤ h + w.2.2.2.2 := by
    intro l
    induction l with
    | nil => intro D1 _ s n _ _; exact ⟨D1, rfl, s, n, by simp, .refl _, by simp⟩
    | cons w l ih =>
      intro D1 hm s n hz hL
      rw [List.length_cons] at hz
      refine wp_bind (relax2_wp (hm w List.mem_cons_self) s n (by omega)) fun D2 ⟨s2, l2, n2, z2, g2⟩ => ?_
      refine wp_mono (ih D2 (fun v hv => hm v (List.mem_cons_of_mem _ hv)) s2 n2 (by omega) (hL.trans l2)) fun D3 ⟨s3, n3, z3, l3, g3⟩ => ⟨s3, n3, by rw [List.length_cons]; omega, l2.trans l3, fun v hv x y h hg a e => ?_⟩
      rcases List.mem_cons.mp hv with rfl | hv
      · obtain ⟨h1, q1, q2⟩ := hL x h e
        obtain ⟨k, g⟩ := s _ _ q1
        have := a.low _ _ g
        have e1 : h1 = h := by omega
        subst e1
        obtain ⟨h2, q3, q4⟩ := g2 x y h1 hg a q1
        obtain ⟨h3, q5, q6⟩ := l3 _ _ q3
        exact ⟨h3, q5, by omega⟩
      · exact g3 v hv x y h hg a e
  refine wp_mono (key ways D (fun w hw => hw) S N (by omega) (.refl D)) fun D' ⟨s, n, z, l, g⟩ => ⟨s, n, z, fun x h ws hT hw => ?_⟩
  cases hT with
  | nil =>
    obtain ⟨h', e, hle⟩ := l c 0 (hQ c 0 [] .nil (by simp))
    obtain ⟨k, g'⟩ := s _ _ e
    have := g'.low P
    rw [e]
    congr 1
    omega
  | @step x y h w ws hT hm hg a =>
    rw [List.length_cons] at hw
    obtain ⟨h', e, hle⟩ := g w hm _ _ _ hg (hT.ht P) (hQ _ _ _ hT (by omega))
    obtain ⟨k, g'⟩ := s _ _ e
    have := a.low _ _ g'
    rw [e]
    congr 1
    omega
structure IsH (ways : List Way) (c : Str) (D : DH) : Prop where
  nd : (D.map fun p => p.1).Nodup
  is : ∀ x h, look D x = some h ↔ Ht ways c x h
theorem heights_dict_wp {ways : List Way} {c : Str} (P : Pos ways) (hl : ways.length ≤ 100) : Wp ((pRng (ways.length : Int)).bind fun l2 => forP (P_heights_of_b6 ways) l2 (mergeL [] [(c, 0)])) fun D => IsH ways c D ∧ D.length ≤ 1 + 2 * ways.length * ways.length := by
  have e0 : mergeL [] [(c, (0 : Int))] = [(c, 0)] := rfl
  rw [e0]
  refine wp_be (rng_eq (by omega)) ?_
  have hsq : ways.length * ways.length ≤ 100 * 100 := Nat.mul_le_mul hl hl
  refine wp_mono (wp_loop (I := fun j D => SoundD ways c D ∧ (D.map fun p => p.1).Nodup ∧ D.length ≤ 1 + 2 * ways.length * j ∧ ∀ x h ws, Tw ways c x h ws → ws.length ≤ j → look D x = some h) ⟨fun x h e => ?_, by simp, by simp, fun x h ws hT hw => ?_⟩ ?_) fun D hD => ?_
  · unfold look at e
    by_cases hx : c = x
    · subst hx
      simp at e
      subst e
      exact ⟨0, .nil⟩
    · simp [hx] at e
  · cases hT with
    | nil => simp [look]
    | step _ _ _ _ => simp at hw
  · rintro j y D hy ⟨s, n, z, q⟩
    have hj := (List.getElem?_eq_some_iff.mp hy).1
    rw [rangeI_len] at hj
    have hjl : ways.length * j ≤ ways.length * ways.length := Nat.mul_le_mul_left _ (by omega)
    rw [Nat.mul_assoc] at z
    unfold P_heights_of_b6
    refine wp_bind (round_wp P s n (by omega) q) fun D' hD => wp_some ⟨hD.1, hD.2.1, ?_, hD.2.2.2⟩
    have := hD.2.2.1
    rw [Nat.mul_assoc, Nat.mul_succ]
    omega
  · rw [rangeI_len] at hD
    obtain ⟨s, n, z, q⟩ := hD
    have hn : ((ways.length : Int)).toNat = ways.length := by omega
    rw [hn] at z q
    refine ⟨⟨n, fun x h => ⟨fun e => ?_, fun a => ?_⟩⟩, z⟩
    · obtain ⟨k, g⟩ := s x h e
      obtain ⟨h0, a⟩ := Ht.ex P g
      obtain ⟨ws, hT⟩ := Tw.ex P _ x h0 (Nat.le_refl _) a
      have := q x h0 ws hT (hT.len P)
      rw [e] at this
      cases this
      exact a
    · obtain ⟨ws, hT⟩ := Tw.ex P _ x h (Nat.le_refl _) a
      exact q x h ws hT (hT.len P)
abbrev RowV := Int × List Str
abbrev eRV : RowV → PyData := eT2 eI (eL eS)
theorem alike_strs : ∀ r s : List Str, PySem.W.alikeAll (r.map eS) (s.map eS) = true
  | [], _ => by simp [PySem.W.alikeAll]
  | _ :: _, [] => by simp [PySem.W.alikeAll]
  | x :: r, y :: s => by
    rw [List.map_cons, List.map_cons]
    simp only [PySem.W.alikeAll, alike_strs r s, Bool.and_true]
    show PySem.W.alike (.str x) (.str y) = true
    simp [PySem.W.alike]
theorem alike_rv (p q : RowV) : PySem.W.alike (eRV p) (eRV q) = true := by
  show PySem.W.alike (.tuple [.int p.1, .list (p.2.map eS)]) (.tuple [.int q.1, .list (q.2.map eS)]) = true
  simp [PySem.W.alike, PySem.W.alikeAll, alike_strs]
theorem lay_rv {p : RowV} (h : ∀ s ∈ p.2, PyData.strOk s = true) : Lay (eRV p) 2 := layT fun d hd => by
  rcases List.mem_cons.mp hd with rfl | hd
  · exact (layI _).mono (by omega)
  · rw [List.mem_singleton] at hd
    subst hd
    exact layL fun d hd => by
      obtain ⟨s, hs, rfl⟩ := List.mem_map.mp hd
      exact layS (h s hs)
abbrev DR := List (Str × RowV)
def okR (k : Nat) (v : RowV) : Prop := v.2.length = k ∧ ∀ s ∈ v.2, PyData.strOk s = true
structure LayD (ways : List Way) (c : Str) (k : Nat) (D : DR) : Prop where
  nd : (D.map fun p => p.1).Nodup
  got : ∀ x v, look D x = some v → Wk ways c k x v.1 ∧ (∀ h', Wk ways c k x h' → v.1 ≤ h') ∧ okR k v
  all : ∀ x h, Wk ways c k x h → ∃ v, look D x = some v
structure PartD (D : DR) (k : Nat) (l : List (Way × Str × Str)) (O : DR) : Prop where
  nd : (O.map fun p => p.1).Nodup
  len : O.length ≤ l.length
  got : ∀ y v, look O y = some v → (∃ t ∈ l, t.2.2 = y ∧ ∃ u, look D t.2.1 = some u ∧ v.1 = u.1 + t.1.2.2.2.2) ∧ okR (k + 1) v
  low : ∀ t ∈ l, ∀ u, look D t.2.1 = some u → ∃ v, look O t.2.2 = some v ∧ v.1 ≤ u.1 + t.1.2.2.2.2
def twice (ways : List Way) : List (Way × Str × Str) := (ways.map fun w => [(w, w.2.1, w.2.2.1), (w, w.2.2.1, w.2.1)]).flatten
theorem twice_app (a b : List Way) : twice (a ++ b) = twice a ++ twice b := by unfold twice; simp
theorem twice_len (a : List Way) : (twice a).length = 2 * a.length := by
  induction a with
  | nil => rfl
  | cons w a ih =>
    have : twice (w :: a) = (w, w.2.1, w.2.2.1) :: (w, w.2.2.1, w.2.1) :: twice a := rfl
    rw [this, List.length_cons, List.length_cons, ih, List.length_cons]
    omega
theorem twice_mem {ways : List Way} {t : Way × Str × Str} : t ∈ twice ways ↔ t.1 ∈ ways ∧ ((t.1.2.1 = t.2.1 ∧ t.1.2.2.1 = t.2.2) ∨ (t.1.2.2.1 = t.2.1 ∧ t.1.2.1 = t.2.2)) := by
  obtain ⟨w, x, y⟩ := t
  unfold twice
  rw [List.mem_flatten]
  constructor
  · rintro ⟨l, hl, ht⟩
    obtain ⟨v, hv, rfl⟩ := List.mem_map.mp hl
    simp at ht
    rcases ht with ⟨rfl, rfl, rfl⟩ | ⟨rfl, rfl, rfl⟩
    · exact ⟨hv, .inl ⟨rfl, rfl⟩⟩
    · exact ⟨hv, .inr ⟨rfl, rfl⟩⟩
  · rintro ⟨hw, h⟩
    refine ⟨_, List.mem_map.mpr ⟨w, hw, rfl⟩, ?_⟩
    dsimp only at h
    rcases h with ⟨rfl, rfl⟩ | ⟨rfl, rfl⟩
    · simp
    · simp
structure FndD (ways : List Way) (c : Str) (k : Nat) (F : DR) : Prop where
  nd : (F.map fun p => p.1).Nodup
  got : ∀ x v, look F x = some v → (∃ j, j < k ∧ Wk ways c j x v.1) ∧ ∀ j, j < k → ∀ h', Wk ways c j x h' → v.1 ≤ h'
  all : ∀ x j h, j < k → Wk ways c j x h → ∃ v, look F x = some v
def combR (o : Option RowV) (v : RowV) : RowV := match o with
  | none => v
  | some u => if v.1 < u.1 then v else u
theorem found_wp : ∀ (l : DR) (F : DR), (l.map fun p => p.1).Nodup → (F.map fun p => p.1).Nodup → F.length + l.length ≤ 90000 → Wp (forP P_w_rows_from_b2 l F) fun F' => (F'.map fun p => p.1).Nodup ∧ F'.length ≤ F.length + l.length ∧ ∀ x, look F' x = (look l x).elim (look F x) fun v => some (combR (look F x) v)
  | [], F, _, hF, _ => ⟨F, rfl, hF, by simp, fun x => rfl⟩
  | (x0, v0) :: l, F, hn, hF, hz => by
    rw [List.map_cons, List.nodup_cons] at hn
    rw [List.length_cons] at hz
    have hstep : Wp (P_w_rows_from_b2 (x0, v0) F) fun F1 => (F1.map fun p => p.1).Nodup ∧ F1.length ≤ F.length + 1 ∧ ∀ x, look F1 x = if x = x0 then some (combR (look F x0) v0) else look F x := by
      unfold P_w_rows_from_b2
      dsimp only
      have hp : pPut F x0 (v0.1, v0.2) = some (putL F x0 v0) := if_pos (by omega)
      cases hx : look F x0 with
      | none =>
        refine wp_be (v := true) rfl ?_
        rw [if_pos rfl, hp]
        exact ⟨_, rfl, put_nodup hF, put_len _ _ _, fun x => by rw [look_put]; rfl⟩
      | some u =>
        refine wp_be (v := decide (v0.1 < u.1)) rfl ?_
        by_cases hlt : v0.1 < u.1
        · rw [if_pos (decide_eq_true hlt), hp]
          refine ⟨_, rfl, put_nodup hF, put_len _ _ _, fun x => ?_⟩
          rw [look_put]
          show _ = if x = x0 then some (if v0.1 < u.1 then v0 else u) else _
          rw [if_pos hlt]
        · rw [if_neg (by simpa using hlt)]
          refine ⟨F, rfl, hF, by omega, fun x => ?_⟩
          show _ = if x = x0 then some (if v0.1 < u.1 then v0 else u) else _
          rw [if_neg hlt]
          split
          · rename_i e
            rw [e, hx]
          · rfl
    obtain ⟨F1, e1, n1, z1, g1⟩ := hstep
    show Wp ((P_w_rows_from_b2 (x0, v0) F).bind _) _
    rw [e1, Option.bind_some]
    refine wp_mono (found_wp l F1 hn.2 n1 (by omega)) fun F' ⟨n', z', g'⟩ => ⟨n', by rw [List.length_cons]; omega, fun x => ?_⟩
    rw [g' x, g1 x]
    have hlk : look ((x0, v0) :: l) x = if x0 = x then some v0 else look l x := by
      unfold look
      rw [List.find?_cons]
      by_cases h : x0 = x
      · simp [h]
      · simp [h]
    rw [hlk]
    by_cases h : x0 = x
    · subst h
      rw [if_pos rfl, if_pos rfl]
      have hno : look l x0 = none := by
        cases hq : look l x0 with
        | none => rfl
        | some v => exact absurd (List.mem_map.mpr ⟨_, look_some hq, rfl⟩) hn.1
      rw [hno]
      rfl
    · rw [if_neg h, if_neg (fun e => h e.symm)]
structure ToldH (ways : List Way) (c : Str) (T : DH) : Prop where
  nd : (T.map fun p => p.1).Nodup
  up : T.Pairwise fun a b => ltS a.1 b.1 = true
  is : ∀ x h, look T x = some h ↔ Ht ways c x h
  ok : ∀ p ∈ T, PyData.strOk p.1 = true
  few : T.length ≤ 50000
def okW (ways : List Way) : Prop := ∀ w ∈ ways, PyData.strOk w.1 = true ∧ PyData.strOk w.2.1 = true ∧ PyData.strOk w.2.2.1 = true ∧ PyData.strOk w.2.2.2.1 = true
theorem Ht.ok {ways : List Way} {c x : Str} {h : Int} (P : Pos ways) (O : okW ways) (hc : PyData.strOk c = true) (a : Ht ways c x h) : PyData.strOk x = true := by
  rcases a.back P with ⟨rfl, _⟩ | ⟨w, y, h', hw, hg, _, _⟩
  · exact hc
  · have := O w hw
    rcases hg with ⟨_, rfl⟩ | ⟨_, rfl⟩
    · exact this.2.2.1
    · exact this.2.1
theorem lt_of_le {a b : Str} (h : leS a b = true) (hne : a ≠ b) : ltS a b = true := by
  rw [leS_eq] at h
  unfold ltS
  simp only [Bool.not_eq_true', decide_eq_false_iff_not, List.not_lt] at h
  refine decide_eq_true ?_
  by_cases q : a.cps.toList < b.cps.toList
  · exact q
  · exfalso
    apply hne
    have := List.le_antisymm h (List.not_lt.mp q)
    cases a; cases b
    simp only [Str.mk.injEq]
    exact Array.toList_inj.mp this
theorem look_perm {β : Type} {A B : List (Str × β)} (h : A.Perm B) (n : (A.map fun p => p.1).Nodup) (x : Str) : look A x = look B x := by
  have nb : (B.map fun p => p.1).Nodup := (h.map _).nodup_iff.mp n
  cases ha : look A x with
  | some v =>
    have := look_some ha
    exact (look_mem nb (h.mem_iff.mp this)).symm
  | none =>
    cases hb : look B x with
    | none => rfl
    | some v =>
      have := look_mem n (h.mem_iff.mpr (look_some hb))
      dsimp only at this
      rw [ha] at this
      cases this
theorem sort_heights {D : DH} (n : (D.map fun p => p.1).Nodup) (ok : ∀ p ∈ D, PyData.strOk p.1 = true) (hl : D.length ≤ 50000) : ∃ T, pSort (eT2 eS eI) D = some T ∧ T.Perm D ∧ T.Pairwise fun a b => ltS a.1 b.1 = true := by
  have hb : sortB (D.map (eT2 eS eI)) = true := sortB_of (by omega) (.inl fun x _ => rfl) (fun x _ y _ => by
    show PySem.W.alike (.tuple [.str x.1, .int x.2]) (.tuple [.str y.1, .int y.2]) = true
    simp [PySem.W.alike, PySem.W.alikeAll]) fun x hx => (layT (k := 0) fun d hd => by
    rcases List.mem_cons.mp hd with rfl | hd
    · exact layS (ok x hx)
    · rw [List.mem_singleton] at hd
      subst hd
      exact layI _ : Lay (eT2 eS eI x) 1).mono (by omega)
  have hle : ∀ a ∈ D, ∀ b ∈ D, leK a b = PySem.W.dataLe false (eT2 eS eI) a b := fun a ha b hb => by
    by_cases hk : a.1 = b.1
    · have g1 := look_mem n ha
      have g2 := look_mem n hb
      rw [hk, g2] at g1
      have e : a = b := Prod.ext hk (Option.some.inj g1).symm
      subst e
      have hs : ∀ d, PySem.W.dataLt d d = false := fun d => PyProof.Rows.lex_irrefl _
      show (!PySem.W.dataLt (.str a.1) (.str a.1)) = !PySem.W.dataLt (eT2 eS eI a) (eT2 eS eI a)
      rw [hs, hs]
    · exact (leT (x := [.int a.2]) (y := [.int b.2]) hk).symm
  have hm := List.map_mergeSort (r := leK) (s := PySem.W.dataLe false (eT2 eS eI)) (f := id) (l := D) hle
  rw [List.map_id, List.map_id] at hm
  refine ⟨D.mergeSort leK, by unfold pSort; rw [if_pos hb, hm], List.mergeSort_perm _ _, ?_⟩
  have hp := List.mergeSort_perm D leK
  have hs := List.pairwise_mergeSort (fun a b c : Str × Int => leS_trans a.1 b.1 c.1) (fun a b => leS_total a.1 b.1) D
  have hn3 := List.pairwise_map.mp ((hp.map fun p => p.1).nodup_iff.mpr n)
  exact (hs.and hn3).imp fun {a b} ⟨q1, q2⟩ => lt_of_le q1 q2
theorem heights_of_wp {ways : List Way} {c : Str} (P : Pos ways) (O : okW ways) (hc : PyData.strOk c = true) (hl : ways.length ≤ 100) : Wp (P_heights_of ways c) (ToldH ways c) := by
  obtain ⟨D, e, hD, hz⟩ := heights_dict_wp (c := c) P hl
  have hsq : 2 * ways.length * ways.length ≤ 2 * 100 * 100 := Nat.mul_le_mul (Nat.mul_le_mul_left _ hl) hl
  have ok : ∀ p ∈ D, PyData.strOk p.1 = true := fun p hp => ((hD.is p.1 p.2).mp (look_mem hD.nd hp)).ok P O hc
  obtain ⟨T, e2, hp, hu⟩ := sort_heights hD.nd ok (by omega)
  have hn : (T.map fun p => p.1).Nodup := (hp.map _).nodup_iff.mpr hD.nd
  refine ⟨T, ?_, hn, hu, fun x h => by rw [look_perm hp hn]; exact hD.is x h, fun p hpT => ok p (hp.mem_iff.mp hpT), by rw [hp.length_eq]; omega⟩
  unfold P_heights_of
  rw [Option.bind_some]
  obtain ⟨l, l1, l2⟩ := Option.bind_eq_some_iff.mp e
  rw [l1, Option.bind_some, l2, Option.bind_some, e2]
  rfl
theorem strewnW_wp {b : List Int} {n : Int} {l : List Way} (h : Bok b n) (hn : n + 200 < 2147483648) (hl : l.length ≤ 100) : Wp (P_w_strewn b l) fun r => r.1.Perm l ∧ Bok r.2 (n + 100) := strewn_gen (fun _ _ => rfl) h hn hl
theorem land_ok : ∀ s ∈ ([("land" : Str), ("water" : Str)] : List Str), PyData.strOk s = true := by decide +kernel
def inC (camps : List Str) (ways : List Way) : Prop := ∀ w ∈ ways, w.2.1 ∈ camps ∧ w.2.2.1 ∈ camps
theorem ways_wp {b : List Int} {n m : Int} {camps : List Str} (h : Bok b n) (hm : 0 ≤ m ∧ m ≤ 16) (hn : n + 1000 < 2147483648) (hc : ∀ s ∈ camps, PyData.strOk s = true) (hcl : camps.length ≤ 100) : Wp (P_w_ways b camps m) fun r => ((r.1.length : Int) ≤ m ∧ Pos r.1 ∧ okW r.1 ∧ inC camps r.1 ∧ (r.1.map fun w => w.1).Nodup) ∧ Bok r.2 (n + 700) := by
  unfold P_w_ways
  refine wp_bind (names_wp2 h (by omega) (by omega)) fun r1 h1 => ?_
  obtain ⟨⟨⟨a1, a2⟩, aN⟩, a3⟩ := h1
  refine wp_bind (take_wp a3 (by omega) (m := 3) (by omega)) fun r2 h2 => ?_
  refine wp_bind (ix_menu (by omega) (by simp; omega)) fun t3 h3 => ?_
  simp at h3
  refine wp_bind (take_wp h2.2 (by omega) (m := 4) (by omega)) fun r4 h4 => ?_
  refine wp_bind (take_wp h4.2 (by omega) (m := 2) (by omega)) fun r5 h5 => ?_
  refine wp_bind (ix_menu (by omega) (by simp; omega)) fun t6 h6 => ?_
  simp at h6
  refine wp_be (rep_eq (by split <;> simp <;> omega)) ?_
  have hrep : repL r1.1 (if decide (1 < (camps.length : Int)) = true then 1 else 0) = if 1 < camps.length then r1.1 else [] := by
    by_cases hc1 : 1 < camps.length
    · rw [if_pos hc1, if_pos (decide_eq_true (by omega))]
      simp [repL]
    · rw [if_neg hc1, if_neg (by simp; omega)]
      simp [repL]
  rw [hrep]
  refine wp_bind (wp_loop (I := fun j s => (s.2.length = j ∧ Pos s.2 ∧ okW s.2 ∧ inC camps s.2 ∧ (s.2.map fun w => w.1) = (if 1 < camps.length then r1.1 else []).take j) ∧ Bok s.1 (n + 12 * m + 3 + 20 * (j : Int))) ⟨⟨rfl, by intro w hw; simp at hw, by intro w hw; simp at hw, by intro w hw; simp at hw, by simp⟩, h5.2.mono (by omega)⟩ ?_) fun s hs => ?_
  · rintro j x ⟨b, found⟩ hx ⟨⟨g1, g2, g3, gC, gN⟩, g4⟩
    dsimp only at g1 g2 g3 g4 gN
    obtain ⟨hx1, hx2⟩ := enumI_get hx
    have hj := (List.getElem?_eq_some_iff.mp hx2).1
    by_cases hc1 : 1 < camps.length
    · rw [if_pos hc1] at hj hx2 gN
      have hxn := a2 _ (List.mem_of_getElem? hx2)
      unfold P_w_ways_b2
      dsimp only
      refine wp_bind (take_wp g4 (by omega) (m := 3) (by omega)) fun r8 h8 => ?_
      refine wp_bind (R := fun z => (0 ≤ z.1 ∧ z.1 < (camps.length : Int)) ∧ Bok z.2 (n + 12 * m + 3 + 20 * (j : Int) + 2)) ?_ fun z11 h11 => ?_
      · refine wp_if (fun _ => ?_) (fun _ => ?_)
        · refine wp_bind (take_wp h8.2 (by omega) (m := (camps.length : Int)) (by omega)) fun r9 h9 => wp_some ⟨h9.1, h9.2.mono (by omega)⟩
        · refine wp_be (mod_eq (by omega)) ?_
          exact wp_some ⟨⟨Int.emod_nonneg _ (by omega), Int.emod_lt_of_pos _ (by omega)⟩, h8.2.mono (by omega)⟩
      refine wp_bind (take_wp h11.2 (by omega) (m := (camps.length : Int) - 1) (by omega)) fun r12 h12 => ?_
      refine wp_bind (take_wp h12.2 (by omega) (m := 2) (by omega)) fun r13 h13 => ?_
      refine wp_be (mul_eq (.inl (by omega))) ?_
      refine wp_be (mod_eq (by omega)) ?_
      have e1 := Int.emod_nonneg (z11.1 + 1 + r12.1 * r13.1) (b := (camps.length : Int)) (by omega)
      have e2 := Int.emod_lt_of_pos (z11.1 + 1 + r12.1 * r13.1) (b := (camps.length : Int)) (by omega)
      refine wp_bind (take_wp h13.2 (by omega) (m := t3) (by omega)) fun r16 h16 => ?_
      refine wp_bind (take_wp h16.2 (by omega) (m := 4) (by omega)) fun r17 h17 => ?_
      refine wp_bind (ix_menu (by omega) (by simp; omega)) fun t18 h18 => ?_
      simp at h18
      refine wp_let ?_
      refine wp_bind (ix_menu h11.1.1 h11.1.2) fun t20 h20 => ?_
      refine wp_bind (ix_menu e1 e2) fun t21 h21 => ?_
      refine wp_bind (ix_menu e1 e2) fun t22 h22 => ?_
      refine wp_bind (ix_menu h11.1.1 h11.1.2) fun t23 h23 => ?_
      refine wp_bind (take_wp h17.2 (by omega) (m := 2) (by omega)) fun r24 h24 => ?_
      refine wp_bind (ix_menu (by omega) (by simp; omega)) fun t25 h25 => ?_
      have hC25 : t25.1 ∈ camps ∧ t25.2 ∈ camps := by
        simp at h25
        rcases h25 with rfl | rfl
        · exact ⟨h20, h21⟩
        · exact ⟨h22, h23⟩
      have ht25 : PyData.strOk t25.1 = true ∧ PyData.strOk t25.2 = true := ⟨hc _ hC25.1, hc _ hC25.2⟩
      refine wp_bind (take_wp h24.2 (by omega) (m := 2) (by omega)) fun r26 h26 => ?_
      refine wp_bind (ix_menu (by omega) (by simp; omega)) fun t27 h27 => ?_
      refine wp_be (app_eq (by omega)) ?_
      have heff : 1 ≤ minI 90000 t18 := by
        unfold minI
        split <;> omega
      refine wp_some ⟨⟨by dsimp only; rw [List.length_append, g1]; rfl, fun w hw => ?_, fun w hw => ?_, fun w hw => ?_, by dsimp only; rw [List.map_append, gN, if_pos hc1, List.take_succ, hx2]; rfl⟩, h26.2.mono (by omega)⟩
      · rcases List.mem_append.mp hw with hw | hw
        · exact g2 w hw
        · rw [List.mem_singleton] at hw
          rw [hw]
          exact heff
      · rcases List.mem_append.mp hw with hw | hw
        · exact g3 w hw
        · rw [List.mem_singleton] at hw
          rw [hw]
          exact ⟨hxn.ok, ht25.1, ht25.2, land_ok t27 h27⟩
      · rcases List.mem_append.mp hw with hw | hw
        · exact gC w hw
        · rw [List.mem_singleton] at hw
          rw [hw]
          exact hC25
    · rw [if_neg hc1] at hj
      simp at hj
  · obtain ⟨⟨g1, g2, g3, gC, gN⟩, g4⟩ := hs
    rw [enumI_len] at g1 g4 gN
    have hnd : (s.2.map fun w => w.1).Nodup := by
      rw [gN, List.take_length]
      split
      · exact aN
      · exact .nil
    have hz : ((if 1 < camps.length then r1.1 else []).length : Int) ≤ m := by
      split
      · omega
      · simp
        omega
    refine wp_bind (strewnW_wp (n := n + 12 * m + 3 + 20 * 16) (g4.mono (by omega)) (by omega) (by omega)) fun r30 h30 => wp_some ⟨⟨by rw [h30.1.length_eq]; omega, fun w hw => g2 w (h30.1.mem_iff.mp hw), fun w hw => g3 w (h30.1.mem_iff.mp hw), fun w hw => gC w (h30.1.mem_iff.mp hw), (h30.1.map fun w => w.1).nodup_iff.mpr hnd⟩, h30.2.mono (by omega)⟩
theorem merge_new : ∀ (l D : List (Str × Int)), (l.map fun x => x.1).Nodup → (∀ x ∈ l, x.1 ∉ D.map fun x => x.1) → mergeL D l = D ++ l
  | [], D, _, _ => by simp [mergeL]
  | p :: l, D, h, hn => by
    rw [List.map_cons, List.nodup_cons] at h
    have e : mergeL D (p :: l) = mergeL (putL D p.1 p.2) l := rfl
    have hp := hn p List.mem_cons_self
    have e2 : putL D p.1 p.2 = D ++ [p] := by
      unfold putL
      rw [if_neg]
      intro hc
      obtain ⟨q, hq, hq2⟩ := List.any_eq_true.mp hc
      exact hp (List.mem_map.mpr ⟨q, hq, of_decide_eq_true hq2⟩)
    rw [e, e2, merge_new l (D ++ [p]) h.2 fun x hx hm => ?_, List.append_assoc]
    · rfl
    · rw [List.map_append, List.mem_append] at hm
      rcases hm with hm | hm
      · exact hn x (List.mem_cons_of_mem _ hx) hm
      · rw [List.map_singleton, List.mem_singleton] at hm
        exact h.1 (hm ▸ List.mem_map.mpr ⟨x, hx, rfl⟩)
theorem ltS_iff {a b : Str} : ltS a b = true ↔ a.cps.toList < b.cps.toList := by
  unfold ltS
  exact decide_eq_true_iff
theorem ltS_trans {a b c : Str} (h1 : ltS a b = true) (h2 : ltS b c = true) : ltS a c = true := ltS_iff.mpr (List.lt_trans (ltS_iff.mp h1) (ltS_iff.mp h2))
theorem ltS_irrefl (a : Str) : ¬ ltS a a = true := fun h => List.lt_irrefl _ (ltS_iff.mp h)
def lexS : List Str → List Str → Bool
  | [], [] => false
  | [], _ :: _ => true
  | _ :: _, [] => false
  | x :: r, y :: s => if x = y then lexS r s else ltS x y
theorem ltS_tri (x y : Str) : x = y ∨ ltS x y = true ∨ ltS y x = true := by
  by_cases h : ltS x y = true
  · exact .inr (.inl h)
  · by_cases h2 : ltS y x = true
    · exact .inr (.inr h2)
    · refine .inl ?_
      rw [ltS_iff] at h h2
      have := List.le_antisymm (List.not_lt.mp h2) (List.not_lt.mp h)
      cases x; cases y
      simp only [Str.mk.injEq]
      exact Array.toList_inj.mp this
theorem lexS_self : ∀ r : List Str, lexS r r = false
  | [] => rfl
  | x :: r => by
    unfold lexS
    rw [if_pos rfl, lexS_self r]
theorem lexS_tri : ∀ r s : List Str, r = s ∨ lexS r s = true ∨ lexS s r = true
  | [], [] => .inl rfl
  | [], _ :: _ => .inr (.inl rfl)
  | _ :: _, [] => .inr (.inr rfl)
  | x :: r, y :: s => by
    unfold lexS
    by_cases h : x = y
    · subst h
      rw [if_pos rfl, if_pos rfl]
      rcases lexS_tri r s with rfl | h | h
      · exact .inl rfl
      · exact .inr (.inl h)
      · exact .inr (.inr h)
    · rw [if_neg h, if_neg (fun e => h e.symm)]
      rcases ltS_tri x y with e | h | h
      · exact absurd e ‹_›
      · exact .inr (.inl h)
      · exact .inr (.inr h)
theorem lexS_trans : ∀ r s t : List Str, lexS r s = true → lexS s t = true → lexS r t = true
  | [], [], _, h, _ => by cases h
  | [], _ :: _, [], _, h => by cases h
  | [], _ :: _, _ :: _, _, _ => rfl
  | _ :: _, [], _, h, _ => by cases h
  | _ :: _, _ :: _, [], _, h => by cases h
  | x :: r, y :: s, z :: t, h1, h2 => by
    unfold lexS at *
    by_cases hxy : x = y
    · subst hxy
      rw [if_pos rfl] at h1
      by_cases hyz : x = z
      · subst hyz
        rw [if_pos rfl] at h2 ⊢
        exact lexS_trans r s t h1 h2
      · rw [if_neg hyz] at h2 ⊢
        exact h2
    · rw [if_neg hxy] at h1
      by_cases hyz : y = z
      · subst hyz
        rw [if_neg hxy]
        exact h1
      · rw [if_neg hyz] at h2
        have h3 := ltS_trans h1 h2
        rw [if_neg (fun e => by rw [e] at h3; exact ltS_irrefl _ h3)]
        exact h3
theorem lexS_app (n : Str) : ∀ r s : List Str, r.length = s.length → lexS (r ++ [n]) (s ++ [n]) = lexS r s
  | [], [], _ => by
    show lexS [n] [n] = false
    exact lexS_self _
  | [], _ :: _, h => by cases h
  | _ :: _, [], h => by cases h
  | x :: r, y :: s, h => by
    rw [List.cons_append, List.cons_append]
    unfold lexS
    rw [lexS_app n r s (by simpa using h)]
theorem eqv_strs (r s : List Str) : PyData.eqv (eL eS r) (eL eS s) = decide (r = s) := (eqE_list eqE_str).eq r s
theorem lt_strs : ∀ r s : List Str, r.length = s.length → PySem.W.dataLt (eL eS r) (eL eS s) = lexS r s := by
  have key : ∀ r s : List Str, r.length = s.length → PyProof.Rows.lexLt PyProof.Rows.itemOrd (PySem.W.keyToksAll (r.map eS)) (PySem.W.keyToksAll (s.map eS)) = lexS r s := fun r => by
    induction r with
    | nil =>
      intro s h
      cases s with
      | nil => exact PyProof.Rows.lex_irrefl _
      | cons y s => cases h
    | cons x r ih =>
      intro s h
      cases s with
      | nil => cases h
      | cons y s =>
        rw [List.map_cons, List.map_cons, PySem.W.dataLt_cons (by simp [eS, PySem.W.alike])]
        unfold lexS
        by_cases hxy : x = y
        · subst hxy
          rw [if_pos (by show (x == x) = true; simp), if_pos rfl]
          exact ih s (by simpa using h)
        · rw [if_neg (by show ¬ (x == y) = true; simpa using hxy), if_neg hxy]
          show PySem.W.dataLt (.str x) (.str y) = _
          rw [PySem.W.dataLt_str]
          rfl
  intro r s h
  show PySem.W.dataLt (.list (r.map eS)) (.list (s.map eS)) = _
  rw [PySem.W.dataLt_list]
  exact key r s h
def ltV (p q : Int × List Str) : Bool := if p.1 = q.1 then lexS p.2 q.2 else decide (p.1 < q.1)
theorem ltV_self (p : Int × List Str) : ltV p p = false := by
  unfold ltV
  rw [if_pos rfl, lexS_self]
theorem ltV_tri (p q : Int × List Str) : p = q ∨ ltV p q = true ∨ ltV q p = true := by
  unfold ltV
  by_cases h : p.1 = q.1
  · rw [if_pos h, if_pos h.symm]
    rcases lexS_tri p.2 q.2 with e | e | e
    · exact .inl (Prod.ext h e)
    · exact .inr (.inl e)
    · exact .inr (.inr e)
  · rw [if_neg h, if_neg (fun e => h e.symm)]
    rcases Int.lt_or_gt_of_ne h with e | e
    · exact .inr (.inl (decide_eq_true e))
    · exact .inr (.inr (decide_eq_true e))
theorem ltV_trans {p q r : Int × List Str} (h1 : ltV p q = true) (h2 : ltV q r = true) : ltV p r = true := by
  unfold ltV at *
  by_cases a : p.1 = q.1
  · rw [if_pos a] at h1
    by_cases b : q.1 = r.1
    · rw [if_pos b] at h2
      rw [if_pos (a.trans b)]
      exact lexS_trans _ _ _ h1 h2
    · rw [if_neg b] at h2
      rw [if_neg (by rw [a]; exact b), a]
      exact h2
  · rw [if_neg a] at h1
    have h1 := of_decide_eq_true h1
    by_cases b : q.1 = r.1
    · rw [if_neg (by rw [← b]; exact a), ← b]
      exact decide_eq_true h1
    · rw [if_neg b] at h2
      have h2 := of_decide_eq_true h2
      rw [if_neg (by omega)]
      exact decide_eq_true (by omega)
def leV (p q : Int × List Str) : Prop := ltV q p = false
theorem leV_refl (p : Int × List Str) : leV p p := ltV_self p
theorem leV_of {p q : Int × List Str} (h : ltV p q = true) : leV p q := Bool.eq_false_iff.mpr fun h2 => by
  have := ltV_trans h h2
  rw [ltV_self] at this
  cases this
theorem leV_trans {p q r : Int × List Str} (h1 : leV p q) (h2 : leV q r) : leV p r := by
  rcases ltV_tri p q with rfl | h | h
  · exact h2
  · rcases ltV_tri q r with rfl | h' | h'
    · exact h1
    · exact leV_of (ltV_trans h h')
    · unfold leV at h2
      rw [h2] at h'
      cases h'
  · unfold leV at h1
    rw [h1] at h
    cases h
theorem leV_anti {p q : Int × List Str} (h1 : leV p q) (h2 : leV q p) : p = q := by
  unfold leV at *
  rcases ltV_tri p q with e | h | h
  · exact e
  · rw [h2] at h; cases h
  · rw [h1] at h; cases h
theorem leV_more {p q : Int × List Str} (n : Str) (e : Int) (hl : p.2.length = q.2.length) (h : leV p q) : leV (p.1 + e, p.2 ++ [n]) (q.1 + e, q.2 ++ [n]) := by
  unfold leV ltV at *
  dsimp only
  by_cases a : q.1 = p.1
  · rw [if_pos a] at h
    rw [if_pos (by omega), lexS_app n _ _ hl.symm]
    exact h
  · rw [if_neg a] at h
    rw [if_neg (by omega)]
    have h := of_decide_eq_false h
    exact decide_eq_false (by omega)
theorem lt_pair {p q : Int × List Str} (hl : p.1 = q.1 → p.2.length = q.2.length) : PySem.W.dataLt (.tuple [.int p.1, eL eS p.2]) (.tuple [.int q.1, eL eS q.2]) = ltV p q := by
  have al : PySem.W.alike (eL eS p.2) (eL eS q.2) = true := by
    show PySem.W.alike (.list _) (.list _) = true
    simp only [PySem.W.alike]
    exact alike_strs _ _
  rw [PySem.W.dataLt_pair (by simp [PySem.W.alike]) al, PySem.W.dataLt_int, eqv_strs]
  unfold ltV
  by_cases a : p.1 = q.1
  · rw [if_pos (by show (p.1 == q.1) = true; simpa using a), if_pos a]
    by_cases b : p.2 = q.2
    · rw [if_pos (decide_eq_true b), b, lexS_self]
    · rw [if_neg (by simpa using b), lt_strs _ _ (hl a)]
  · rw [if_neg (by show ¬ (p.1 == q.1) = true; simpa using a), if_neg a]
inductive Wn (ways : List Way) (c : Str) : List Str → Str → Int → Prop
  | nil : Wn ways c [] c 0
  | step {r : List Str} {x y : Str} {h : Int} {w : Way} : Wn ways c r x h → w ∈ ways → goes w x y → Wn ways c (r ++ [w.1]) y (h + w.2.2.2.2)
theorem Wn.wk {ways : List Way} {c x : Str} {r : List Str} {h : Int} (g : Wn ways c r x h) : Wk ways c r.length x h := by
  induction g with
  | nil => exact .nil
  | step _ hw hg ih =>
    rw [List.length_append]
    exact .step ih hw hg
theorem Wk.wn {ways : List Way} {c x : Str} {k : Nat} {h : Int} (g : Wk ways c k x h) : ∃ r, Wn ways c r x h ∧ r.length = k := by
  induction g with
  | nil => exact ⟨[], .nil, rfl⟩
  | step _ hw hg ih =>
    obtain ⟨r, g, e⟩ := ih
    exact ⟨_, .step g hw hg, by rw [List.length_append, e]; rfl⟩
theorem Wn.ok {ways : List Way} {c x : Str} {r : List Str} {h : Int} (O : ∀ w ∈ ways, PyData.strOk w.1 = true) (g : Wn ways c r x h) : ∀ s ∈ r, PyData.strOk s = true := by
  induction g with
  | nil => simp
  | step _ hw _ ih =>
    intro s hs
    rcases List.mem_append.mp hs with hs | hs
    · exact ih s hs
    · rw [List.mem_singleton] at hs
      rw [hs]
      exact O _ hw
theorem Wk.tight {ways : List Way} {c x : Str} {k : Nat} {h : Int} (g : Wk ways c k x h) : Ht ways c x h → ∃ ws, Tw ways c x h ws ∧ ws.length = k := by
  induction g with
  | nil => exact fun _ => ⟨[], .nil, rfl⟩
  | @step k x y h w g hw hg ih =>
    intro a
    have b : Ht ways c x h := ⟨⟨k, g⟩, fun k' h' g' => by
      have := a.low _ _ (Wk.step g' hw hg)
      omega⟩
    obtain ⟨ws, t, e⟩ := ih b
    exact ⟨_, .step t hw hg a, by rw [List.length_cons, e]⟩
abbrev rkV (r : List Str) : Int × List Str := ((r.length : Int), r)
structure Best (ways : List Way) (c x : Str) (v : RowV) : Prop where
  got : Wn ways c v.2 x v.1
  ht : Ht ways c x v.1
  low : ∀ r, Wn ways c r x v.1 → leV (rkV v.2) (rkV r)
theorem Best.uniq {ways : List Way} {c x : Str} {v v' : RowV} (a : Best ways c x v) (b : Best ways c x v') : v = v' := by
  have e := a.ht.uniq b.ht
  have h1 := a.low v'.2 (by rw [e]; exact b.got)
  have h2 := b.low v.2 (by rw [← e]; exact a.got)
  have := congrArg Prod.snd (leV_anti h1 h2)
  exact Prod.ext e this
theorem Best.few {ways : List Way} {c x : Str} {v : RowV} (P : Pos ways) (a : Best ways c x v) : v.2.length ≤ ways.length := by
  obtain ⟨ws, t, e⟩ := a.got.wk.tight a.ht
  rw [← e]
  exact t.len P
theorem Best.self {ways : List Way} {c : Str} (P : Pos ways) : Best ways c c (0, []) := ⟨.nil, Ht.self P, fun r g => by
  show leV ((([] : List Str).length : Int), ([] : List Str)) ((r.length : Int), r)
  cases r with
  | nil => exact leV_refl _
  | cons x r =>
    refine leV_of ?_
    have e : ((([] : List Str).length : Nat) : Int) < (((x :: r).length : Nat) : Int) := by
      rw [List.length_cons, List.length_nil]
      omega
    unfold ltV
    rw [if_neg (show ¬ ((([] : List Str).length : Nat) : Int) = (((x :: r).length : Nat) : Int) by omega)]
    exact decide_eq_true e⟩
theorem Best.step {ways : List Way} {c x : Str} {v : RowV} {w : Way} {r : List Str} {h : Int} (b : Best ways c x v) (hl : Wn ways c r x h) (e : v.1 = h) : leV (rkV (v.2 ++ [w.1])) (rkV (r ++ [w.1])) := by
  have h1 := b.low r (by rw [e]; exact hl)
  by_cases hlen : v.2.length = r.length
  · have := leV_more w.1 1 hlen h1
    show leV ((((v.2 ++ [w.1]).length : Nat) : Int), v.2 ++ [w.1]) ((((r ++ [w.1]).length : Nat) : Int), r ++ [w.1])
    rw [List.length_append, List.length_append]
    exact this
  · unfold leV ltV rkV at h1
    dsimp only at h1
    rw [if_neg (by omega)] at h1
    have h1 := of_decide_eq_false h1
    refine leV_of ?_
    have e1 : (((v.2 ++ [w.1]).length : Nat) : Int) < (((r ++ [w.1]).length : Nat) : Int) := by
      rw [List.length_append, List.length_append]
      omega
    unfold ltV
    rw [if_neg (show ¬ (((v.2 ++ [w.1]).length : Nat) : Int) = (((r ++ [w.1]).length : Nat) : Int) by omega)]
    exact decide_eq_true e1
theorem min2_eq {p q : RowV} (hl : p.2.length = q.2.length) (h1 : ∀ s ∈ p.2, PyData.strOk s = true) (h2 : ∀ s ∈ q.2, PyData.strOk s = true) : Wp (pMin2 eRV p q) fun z => (z = p ∨ z = q) ∧ leV z p ∧ leV z q := by
  unfold pMin2
  have hb : sortB [eRV p, eRV q] = true := by
    have := sortB_of (e := eRV) (l := [p, q]) (by simp) (.inl fun x _ => rfl) (fun x _ y _ => alike_rv x y) fun x hx => by
      rcases List.mem_cons.mp hx with rfl | hx
      · exact (lay_rv h1).mono (by omega)
      · rw [List.mem_singleton] at hx
        subst hx
        exact (lay_rv h2).mono (by omega)
    exact this
  have e : PySem.W.dataLt (eRV q) (eRV p) = ltV q p := lt_pair fun _ => hl.symm
  rw [if_pos hb, e]
  refine wp_some ?_
  cases hq : ltV q p with
  | true => exact ⟨.inr rfl, leV_of hq, leV_refl _⟩
  | false => exact ⟨.inl rfl, leV_refl _, hq⟩
structure LayR (ways : List Way) (c : Str) (k : Nat) (D : DR) : Prop where
  nd : (D.map fun p => p.1).Nodup
  got : ∀ x v, look D x = some v → Wn ways c v.2 x v.1 ∧ okR k v ∧ ∀ r h', Wn ways c r x h' → r.length = k → leV v (h', r)
  all : ∀ x r h, Wn ways c r x h → r.length = k → ∃ v, look D x = some v
structure PartR (D : DR) (k : Nat) (l : List (Way × Str × Str)) (O : DR) : Prop where
  nd : (O.map fun p => p.1).Nodup
  len : O.length ≤ l.length
  got : ∀ y v, look O y = some v → (∃ t ∈ l, t.2.2 = y ∧ ∃ u, look D t.2.1 = some u ∧ v = (u.1 + t.1.2.2.2.2, u.2 ++ [t.1.1])) ∧ okR (k + 1) v
  low : ∀ t ∈ l, ∀ u, look D t.2.1 = some u → ∃ v, look O t.2.2 = some v ∧ leV v (u.1 + t.1.2.2.2.2, u.2 ++ [t.1.1])
theorem onwardR_wp {D O : DR} {k : Nat} {l : List (Way × Str × Str)} {w : Way} {x y : Str} (hD : ∀ x v, look D x = some v → okR k v) (hk : k ≤ 1000) (hl : l.length ≤ 10000) (hw : PyData.strOk w.1 = true) (h : PartR D k l O) : Wp (P_w_rows_from_b4 D w.2.2.2.2 w.1 (x, y) O) (PartR D k (l ++ [(w, x, y)])) := by
  unfold P_w_rows_from_b4
  dsimp only
  cases hx : look D x with
  | none =>
    refine wp_be (v := O) rfl (wp_some ⟨h.nd, by have := h.len; rw [List.length_append]; omega, fun z v e => ?_, fun t ht u hu => ?_⟩)
    · obtain ⟨⟨t, ht, g⟩, g2⟩ := h.got z v e
      exact ⟨⟨t, List.mem_append_left _ ht, g⟩, g2⟩
    · rcases List.mem_append.mp ht with ht | ht
      · exact h.low t ht u hu
      · rw [List.mem_singleton] at ht
        subst ht
        dsimp only at hu
        rw [hx] at hu
        cases hu
  | some u =>
    obtain ⟨u1, u2⟩ := hD x u hx
    have hm : okR (k + 1) (u.1 + w.2.2.2.2, u.2 ++ [w.1]) := ⟨by dsimp only; rw [List.length_append, u1]; rfl, fun s hs => by
      rcases List.mem_append.mp hs with hs | hs
      · exact u2 s hs
      · rw [List.mem_singleton] at hs
        rw [hs]
        exact hw⟩
    have hg : okR (k + 1) ((look O y).getD (u.1 + w.2.2.2.2, u.2 ++ [w.1])) := by
      cases ho : look O y with
      | none => exact hm
      | some v => exact (h.got y v ho).2
    obtain ⟨z, e, hz, hz1, hz2⟩ := min2_eq (hg.1.trans hm.1.symm) hg.2 hm.2
    have hO := h.len
    refine wp_be (v := putL O y z) ?_ (wp_some ⟨put_nodup h.nd, by have := put_len O y z; rw [List.length_append]; simp; omega, fun q v e2 => ?_, fun t ht u' hu => ?_⟩)
    · rw [if_pos (show (some u).isSome = true from rfl), Option.bind_some, Option.bind_some, cat_eq (by rw [u1]; simp; omega), Option.bind_some, Option.bind_some]
      show ((pMin2 eRV _ _).bind _) = _
      rw [e, Option.bind_some, show pPut O y z = some (putL O y z) from if_pos (by omega)]
      rfl
    · rw [look_put] at e2
      split at e2
      · rename_i hq
        subst hq
        cases e2
        rcases hz with rfl | rfl
        · cases ho : look O q with
          | none => exact ⟨⟨(w, x, q), by simp, rfl, u, hx, rfl⟩, hm⟩
          | some v0 =>
            obtain ⟨⟨t, ht, g⟩, g2⟩ := h.got q v0 ho
            exact ⟨⟨t, List.mem_append_left _ ht, g⟩, g2⟩
        · exact ⟨⟨(w, x, q), by simp, rfl, u, hx, rfl⟩, hm⟩
      · obtain ⟨⟨t, ht, g⟩, g2⟩ := h.got q v e2
        exact ⟨⟨t, List.mem_append_left _ ht, g⟩, g2⟩
    · rw [look_put]
      rcases List.mem_append.mp ht with ht | ht
      · obtain ⟨v, e3, e4⟩ := h.low t ht u' hu
        split
        · rename_i hq
          rw [hq] at e3
          rw [e3] at hz1
          exact ⟨z, rfl, leV_trans hz1 e4⟩
        · exact ⟨v, e3, e4⟩
      · rw [List.mem_singleton] at ht
        subst ht
        dsimp only at hu ⊢
        rw [hx] at hu
        cases hu
        rw [if_pos rfl]
        exact ⟨z, rfl, hz2⟩
theorem Wn.last {ways : List Way} {c y : Str} {r : List Str} {h : Int} (g : Wn ways c r y h) : (r = [] ∧ y = c ∧ h = 0) ∨ ∃ r0 x h0 w, Wn ways c r0 x h0 ∧ w ∈ ways ∧ goes w x y ∧ r = r0 ++ [w.1] ∧ h = h0 + w.2.2.2.2 := by
  cases g with
  | nil => exact .inl ⟨rfl, rfl, rfl⟩
  | step g hw hg => exact .inr ⟨_, _, _, _, g, hw, hg, rfl, rfl⟩
theorem layerR_wp {ways : List Way} {c : Str} {k : Nat} {D : DR} (hk : k ≤ 900) (hl : ways.length ≤ 100) (hn : ∀ w ∈ ways, PyData.strOk w.1 = true) (h : LayR ways c k D) : Wp (forP (P_w_rows_from_b6 D) ways []) fun O => LayR ways c (k + 1) O ∧ O.length ≤ 2 * ways.length := by
  have hD : ∀ x v, look D x = some v → okR k v := fun x v e => (h.got x v e).2.1
  have key : ∀ (l done : List Way) (O : DR), done ++ l = ways → PartR D k (twice done) O → Wp (forP (P_w_rows_from_b6 D) l O) (PartR D k (twice ways)) := by
    intro l
    induction l with
    | nil => intro done O e hP; rw [List.append_nil] at e; subst e; exact ⟨O, rfl, hP⟩
    | cons w l ih =>
      intro done O e hP
      have hw : w ∈ ways := by rw [← e]; simp
      have hdl : done.length ≤ 100 := by
        have := congrArg List.length e
        rw [List.length_append] at this
        omega
      have htl := twice_len done
      obtain ⟨O1, e1, q1⟩ := onwardR_wp (x := w.2.1) (y := w.2.2.1) hD (by omega) (by omega) (hn w hw) hP
      obtain ⟨O2, e2, q2⟩ := onwardR_wp (x := w.2.2.1) (y := w.2.1) hD (by omega) (by rw [List.length_append]; simp; omega) (hn w hw) q1
      have hb : P_w_rows_from_b6 D w O = some O2 := by
        unfold P_w_rows_from_b6
        dsimp only
        show (Option.bind ((P_w_rows_from_b4 D w.2.2.2.2 w.1 (w.2.1, w.2.2.1) O).bind fun O1 => (P_w_rows_from_b4 D w.2.2.2.2 w.1 (w.2.2.1, w.2.1) O1).bind fun O2 => some O2) fun s => some s) = _
        rw [e1, Option.bind_some, e2]
        rfl
      show Wp ((P_w_rows_from_b6 D w O).bind _) _
      rw [hb, Option.bind_some]
      refine ih (done ++ [w]) O2 (by rw [List.append_assoc]; exact e) ?_
      rw [twice_app]
      have : twice [w] = [(w, w.2.1, w.2.2.1)] ++ [(w, w.2.2.1, w.2.1)] := rfl
      rw [this, ← List.append_assoc]
      exact q2
  refine wp_mono (key ways [] [] rfl ⟨by simp, by simp, fun y v e => by simp [look] at e, fun t ht => by simp [twice] at ht⟩) fun O hO => ⟨⟨hO.nd, fun y v e => ?_, fun y r h' g hr => ?_⟩, by rw [← twice_len]; exact hO.len⟩
  · obtain ⟨⟨t, ht, hy, u, hu, hv⟩, ho⟩ := hO.got y v e
    obtain ⟨hw, hg⟩ := twice_mem.mp ht
    obtain ⟨g1, g2, _⟩ := h.got _ u hu
    refine ⟨?_, ho, fun r h' g hr => ?_⟩
    · rw [hv, ← hy]
      exact .step g1 hw (hg.elim (fun q => .inl q) fun q => .inr q)
    · rcases g.last with ⟨rfl, _, _⟩ | ⟨r0, x, h0, w, g0, hw', hg', rfl, rfl⟩
      · cases hr
      · have hr0 : r0.length = k := by
          rw [List.length_append] at hr
          exact Nat.succ.inj hr
        obtain ⟨u', hu'⟩ := h.all _ _ _ g0 hr0
        obtain ⟨_, o', hle⟩ := h.got _ u' hu'
        obtain ⟨v', e1, e2⟩ := hO.low (w, x, y) (twice_mem.mpr ⟨hw', hg'⟩) u' hu'
        dsimp only at e1 e2
        rw [e] at e1
        cases e1
        exact leV_trans e2 (leV_more (p := u') (q := (h0, r0)) w.1 w.2.2.2.2 (o'.1.trans hr0.symm) (hle r0 h0 g0 hr0))
  · rcases g.last with ⟨rfl, _, _⟩ | ⟨r0, x, h0, w, g0, hw', hg', rfl, rfl⟩
    · cases hr
    · have hr0 : r0.length = k := by
        rw [List.length_append] at hr
        exact Nat.succ.inj hr
      obtain ⟨u', hu'⟩ := h.all _ _ _ g0 hr0
      obtain ⟨v', e1, _⟩ := hO.low (w, x, y) (twice_mem.mpr ⟨hw', hg'⟩) u' hu'
      exact ⟨v', e1⟩
structure FndR (ways : List Way) (c : Str) (k : Nat) (F : DR) : Prop where
  nd : (F.map fun p => p.1).Nodup
  got : ∀ x v, look F x = some v → Wn ways c v.2 x v.1 ∧ v.2.length < k ∧ ∀ r h', Wn ways c r x h' → r.length < k → v.1 < h' ∨ (v.1 = h' ∧ leV (rkV v.2) (rkV r))
  all : ∀ x r h, Wn ways c r x h → r.length < k → ∃ v, look F x = some v
theorem rk_lt {r s : List Str} (h : r.length < s.length) : leV (rkV r) (rkV s) := by
  refine leV_of ?_
  unfold ltV
  rw [if_neg (show ¬ ((r.length : Nat) : Int) = ((s.length : Nat) : Int) by omega)]
  exact decide_eq_true (show ((r.length : Nat) : Int) < ((s.length : Nat) : Int) by omega)
theorem lay_better {v : RowV} {r : List Str} {h' : Int} (hl : v.2.length = r.length) (h : leV v (h', r)) : v.1 < h' ∨ (v.1 = h' ∧ leV (rkV v.2) (rkV r)) := by
  unfold leV ltV at h
  dsimp only at h
  by_cases a : h' = v.1
  · rw [if_pos a] at h
    refine .inr ⟨a.symm, ?_⟩
    unfold leV ltV
    rw [if_pos (show ((r.length : Nat) : Int) = ((v.2.length : Nat) : Int) by omega)]
    exact h
  · rw [if_neg a] at h
    have := of_decide_eq_false h
    exact .inl (by omega)
theorem fndR_step {ways : List Way} {c : Str} {k : Nat} {D F F' : DR} (hD : LayR ways c k D) (hF : FndR ways c k F) (hn : (F'.map fun p => p.1).Nodup) (h : ∀ x, look F' x = (look D x).elim (look F x) fun v => some (combR (look F x) v)) : FndR ways c (k + 1) F' := by
  refine ⟨hn, fun x v e => ?_, fun x r h' g hr => ?_⟩
  · rw [h x] at e
    cases hd : look D x with
    | none =>
      rw [hd] at e
      have e : look F x = some v := e
      obtain ⟨g1, g2, g3⟩ := hF.got x v e
      refine ⟨g1, by omega, fun r h' g hr => ?_⟩
      by_cases hik : r.length = k
      · obtain ⟨u, hu⟩ := hD.all x r h' g hik
        rw [hd] at hu
        cases hu
      · exact g3 r h' g (by omega)
    | some u =>
      rw [hd] at e
      have e : some (combR (look F x) u) = some v := e
      cases e
      obtain ⟨d1, d2, d3⟩ := hD.got x u hd
      cases hf : look F x with
      | none =>
        refine ⟨d1, by show u.2.length < k + 1; rw [d2.1]; omega, fun r h' g hr => ?_⟩
        by_cases hik : r.length = k
        · exact lay_better (d2.1.trans hik.symm) (d3 r h' g hik)
        · obtain ⟨v, hv⟩ := hF.all x r h' g (by omega)
          rw [hf] at hv
          cases hv
      | some f =>
        obtain ⟨g1, g2, g3⟩ := hF.got x f hf
        show Wn ways c (if u.1 < f.1 then u else f).2 x (if u.1 < f.1 then u else f).1 ∧ (if u.1 < f.1 then u else f).2.length < k + 1 ∧ ∀ r h', Wn ways c r x h' → r.length < k + 1 → (if u.1 < f.1 then u else f).1 < h' ∨ ((if u.1 < f.1 then u else f).1 = h' ∧ leV (rkV (if u.1 < f.1 then u else f).2) (rkV r))
        by_cases hlt : u.1 < f.1
        · rw [if_pos hlt]
          refine ⟨d1, by rw [d2.1]; omega, fun r h' g hr => ?_⟩
          by_cases hik : r.length = k
          · exact lay_better (d2.1.trans hik.symm) (d3 r h' g hik)
          · rcases g3 r h' g (by omega) with q | ⟨q, _⟩
            · exact .inl (by omega)
            · exact .inl (by omega)
        · rw [if_neg hlt]
          refine ⟨g1, by omega, fun r h' g hr => ?_⟩
          by_cases hik : r.length = k
          · have q1 : u.1 ≤ h' := by
              rcases lay_better (d2.1.trans hik.symm) (d3 r h' g hik) with q | ⟨q, _⟩ <;> omega
            by_cases q2 : f.1 = h'
            · exact .inr ⟨q2, rk_lt (by omega)⟩
            · exact .inl (by omega)
          · exact g3 r h' g (by omega)
  · rw [h x]
    cases hd : look D x with
    | none =>
      by_cases hik : r.length = k
      · obtain ⟨u, hu⟩ := hD.all x r h' g hik
        rw [hd] at hu
        cases hu
      · exact hF.all x r h' g (by omega)
    | some u => exact ⟨_, rfl⟩
theorem rows_fromR_wp {ways : List Way} {c : Str} (hl : ways.length ≤ 100) (hn : ∀ w ∈ ways, PyData.strOk w.1 = true) : Wp (P_w_rows_from ways c) (FndR ways c (ways.length + 1)) := by
  unfold P_w_rows_from
  refine wp_be (rng_eq (by omega)) ?_
  have e0 : mergeL [] [(c, ((0 : Int), ([] : List Str)))] = [(c, (0, []))] := rfl
  rw [e0]
  refine wp_bind (wp_loop (I := fun j s => FndR ways c j s.1 ∧ LayR ways c j s.2 ∧ s.1.length ≤ j * (1 + 2 * ways.length) ∧ s.2.length ≤ 1 + 2 * ways.length) ⟨⟨by simp, fun x v e => by simp [look] at e, fun x r h g hj => by omega⟩, ⟨by simp, fun x v e => ?_, fun x r h g hr => ?_⟩, by simp, by simp⟩ ?_) fun s hs => wp_some ?_
  · unfold look at e
    by_cases hx : c = x
    · subst hx
      simp at e
      subst e
      refine ⟨.nil, ⟨rfl, by simp⟩, fun r h' g hr => ?_⟩
      rcases g.last with ⟨rfl, _, rfl⟩ | ⟨r0, _, _, _, _, _, _, rfl, _⟩
      · exact leV_refl _
      · rw [List.length_append] at hr
        simp at hr
    · simp [hx] at e
  · rcases g.last with ⟨rfl, rfl, rfl⟩ | ⟨r0, _, _, _, _, _, _, rfl, _⟩
    · exact ⟨(0, []), by simp [look]⟩
    · rw [List.length_append] at hr
      simp at hr
  · rintro j y ⟨F, D⟩ hy ⟨hF, hD, z1, z2⟩
    have hj := (List.getElem?_eq_some_iff.mp hy).1
    rw [rangeI_len] at hj
    dsimp only at hF hD z1 z2
    have hjz : j * (1 + 2 * ways.length) ≤ 100 * 201 := Nat.mul_le_mul (by omega) (by omega)
    unfold P_w_rows_from_b8
    refine wp_bind (found_wp D F hD.nd hF.nd (by omega)) fun F' hF' => ?_
    refine wp_let ?_
    refine wp_bind (layerR_wp (by omega) hl hn hD) fun O hO => wp_some ⟨fndR_step hD hF hF'.1 hF'.2.2, hO.1, ?_, ?_⟩
    · have := hF'.2.1
      rw [Nat.add_mul, Nat.one_mul]
      show F'.length ≤ _
      omega
    · have := hO.2
      show O.length ≤ _
      omega
  · have := hs.1
    rw [rangeI_len] at this
    have e : ((ways.length : Int) + 1).toNat = ways.length + 1 := by omega
    rw [e] at this
    exact this
theorem fndR_best {ways : List Way} {c : Str} {F : DR} (P : Pos ways) (h : FndR ways c (ways.length + 1) F) (x : Str) (v : RowV) : look F x = some v ↔ Best ways c x v := by
  have fwd : ∀ v, look F x = some v → Best ways c x v := fun v e => by
    obtain ⟨g1, g2, g3⟩ := h.got x v e
    have hh : Ht ways c x v.1 := by
      obtain ⟨h0, a⟩ := Ht.ex P g1.wk
      obtain ⟨ws, hT⟩ := Tw.ex P _ x h0 (Nat.le_refl _) a
      obtain ⟨r, gr, er⟩ := hT.wk.wn
      have := a.low _ _ g1.wk
      rcases g3 r h0 gr (by have := hT.len P; omega) with q | ⟨q, _⟩
      · omega
      · rw [q]; exact a
    refine ⟨g1, hh, fun r g => ?_⟩
    obtain ⟨ws, t, e⟩ := g.wk.tight hh
    rcases g3 r v.1 g (by have := t.len P; omega) with q | ⟨_, q⟩
    · omega
    · exact q
  refine ⟨fwd v, fun b => ?_⟩
  obtain ⟨u, hu⟩ := h.all x v.2 v.1 b.got (by have := b.few P; omega)
  rw [hu, (fwd u hu).uniq b]
theorem bE {α β : Type} {x : Option α} {f : α → Option β} {r : Option β} {v : α} (h : x = some v) (k : f v = r) : x.bind f = r := by rw [h]; exact k
abbrev DL := List (Str × List Str)
def tkR (H : DH) (R : DL) (y : Str) (hy : Int) (t : Way × Str × Str) : List (List Str) := if t.2.2 = y then (match look R t.2.1, look H t.2.1 with
  | some row, some h => if h + t.1.2.2.2.2 = hy then [row ++ [t.1.1]] else []
  | _, _ => []) else []
theorem tkR_len (H : DH) (R : DL) (y : Str) (hy : Int) (t : Way × Str × Str) : (tkR H R y hy t).length ≤ 1 := by
  unfold tkR
  split
  · split
    · split <;> simp
    · simp
  · simp
theorem rk_le (a b : List Str) : PySem.W.dataLe false (rkD eS) a b = !ltV (rkV b) (rkV a) := by
  show (!PySem.W.dataLt (rkD eS b) (rkD eS a)) = _
  congr 1
  exact lt_pair (p := rkV b) (q := rkV a) fun e => by
    have e : ((b.length : Nat) : Int) = ((a.length : Nat) : Int) := e
    show b.length = a.length
    omega
theorem leV_b (p q : Int × List Str) : (!ltV q p) = true ↔ leV p q := by
  unfold leV
  cases ltV q p <;> simp
theorem leV_total (p q : Int × List Str) : leV p q ∨ leV q p := by
  rcases ltV_tri p q with rfl | h | h
  · exact .inl (leV_refl _)
  · exact .inl (leV_of h)
  · exact .inr (leV_of h)
theorem sort_head {α : Type} {le : α → α → Bool} {l : List α} (tr : ∀ a b c, le a b = true → le b c = true → le a c = true) (to : ∀ a b, (le a b || le b a) = true) (hne : l ≠ []) : ∃ m, pIx (l.mergeSort le) 0 = some m ∧ m ∈ l ∧ ∀ r ∈ l, le m r = true := by
  have hp := List.mergeSort_perm l le
  have hs := List.pairwise_mergeSort tr to l
  cases hm : l.mergeSort le with
  | nil =>
    rw [hm] at hp
    exact absurd hp.symm.eq_nil hne
  | cons m rest =>
    rw [hm] at hp hs
    refine ⟨m, ix_zero, hp.mem_iff.mp List.mem_cons_self, fun r hr => ?_⟩
    rcases List.mem_cons.mp (hp.mem_iff.mpr hr) with rfl | h
    · have := to r r
      simpa using this
    · exact (List.pairwise_cons.mp hs).1 r h
theorem pair_le (a b : Int × Str) : PySem.W.dataLe false (eT2 eI eS) a b = !ltV (b.1, [b.2]) (a.1, [a.2]) := by
  show (!PySem.W.dataLt (.tuple [.int b.1, .str b.2]) (.tuple [.int a.1, .str a.2])) = _
  congr 1
  rw [PySem.W.dataLt_pair (by simp [PySem.W.alike]) (by simp [PySem.W.alike]), PySem.W.dataLt_int, PySem.W.dataLt_str]
  unfold ltV
  dsimp only
  by_cases h : b.1 = a.1
  · rw [if_pos (by show (b.1 == a.1) = true; simpa using h), if_pos h]
    unfold lexS
    by_cases h2 : b.2 = a.2
    · rw [if_pos (by show (b.2 == a.2) = true; simpa using h2), if_pos h2]
      rfl
    · rw [if_neg (by show ¬ (b.2 == a.2) = true; simpa using h2), if_neg h2]
      rfl
  · rw [if_neg (by show ¬ (b.1 == a.1) = true; simpa using h), if_neg h]
theorem deep_dats {M : List MC} {f n : Nat} {ds : List PyData} (h : M[n]? = some (.lst (ds.map .dat))) : PV.deep M (f + 2) (.ref n) = some (.list ds) := by
  rw [PV.deep]
  simp only [h]
  have : rdAllP (PV.deep M (f + 1)) (ds.map .dat) = some ds := by
    clear h
    induction ds with
    | nil => rfl
    | cons d ds ih =>
      show ((PV.deep M (f + 1) (.dat d)).bind fun x => (rdAllP (PV.deep M (f + 1)) (ds.map .dat)).map (x :: ·)) = _
      rw [ih, PV.deep]
      rfl
  rw [this]
  rfl
theorem pdx_of {M : List MC} {n : Nat} {es : List (PyData × PV)} {k : Str} {p : PV} (h : M[n]? = some (.dct es)) (e : pvGet es (.inr k) = some p) : pPdx M (.ref n) (eS k) = some p := by
  unfold pPdx
  show ((PV.ref n).dx M (.inr k)).bind _ = _
  unfold PV.dx
  simp only [h, e, Option.bind_some]
theorem setD_of {M : List MC} {n : Nat} {es es' : List (PyData × PV)} {k : Str} {p : PV} (h : M[n]? = some (.dct es)) (hl : es.length < 100000) (e : pvPut es (.inr k) p = es') : ((keyOf (eS k)).bind fun q => setDP M (.ref n) q p) = some (M.set n (.dct es')) := by
  show setDP M (.ref n) (.inr k) p = _
  unfold setDP
  simp only [h, if_pos hl, e]
def rowC (row : List Str) : MC := .lst ((row.map eS).map .dat)
def entA (p : Str × Nat) : PyData × PV := (eS p.1, .ref p.2)
abbrev DLA := List (Str × Nat)
inductive RowsC (M : List MC) (u : Nat) : DL → DLA → Prop
  | nil : RowsC M u [] []
  | cons {x : Str} {row : List Str} {a : Nat} {R : DL} {A : DLA} : M[a]? = some (rowC row) → a < u → RowsC M u R A → RowsC M u ((x, row) :: R) ((x, a) :: A)
section
variable {M M' M1 : List MC} {u d s : Nat} {R : DL} {A : DLA}
theorem RowsC.keep (h : RowsC M u R A) (k : ∀ j, j < u → M'[j]? = M[j]?) {u' : Nat} (hu : u ≤ u') : RowsC M' u' R A := by
  induction h with
  | nil => exact .nil
  | cons h1 h2 _ ih => exact .cons ((k _ h2).trans h1) (by omega) ih
theorem RowsC.len (h : RowsC M u R A) : A.length = R.length := by
  induction h with
  | nil => rfl
  | cons _ _ _ ih => rw [List.length_cons, List.length_cons, ih]
theorem look_cons {α β : Type} [DecidableEq α] (p : α × β) (l : List (α × β)) (k : α) : look (p :: l) k = if p.1 = k then some p.2 else look l k := by
  unfold look
  rw [List.find?_cons]
  by_cases h : p.1 = k
  · rw [decide_eq_true h, if_pos h]
    rfl
  · rw [decide_eq_false h, if_neg h]
theorem RowsC.look (h : RowsC M u R A) {x : Str} {row : List Str} (hr : Cm.look R x = some row) : ∃ a, Cm.look A x = some a ∧ M[a]? = some (rowC row) ∧ a < u := by
  induction h with
  | nil => cases hr
  | @cons y row' a R A h1 h2 _ ih =>
    rw [look_cons] at hr ⊢
    dsimp only at hr ⊢
    by_cases hx : y = x
    · rw [if_pos hx] at hr ⊢
      cases hr
      exact ⟨a, rfl, h1, h2⟩
    · rw [if_neg hx] at hr ⊢
      exact ih hr
theorem RowsC.look_no (h : RowsC M u R A) {x : Str} (hr : Cm.look R x = none) : Cm.look A x = none := by
  induction h with
  | nil => rfl
  | @cons y row' a R A h1 h2 _ ih =>
    rw [look_cons] at hr ⊢
    dsimp only at hr ⊢
    by_cases hx : y = x
    · rw [if_pos hx] at hr
      cases hr
    · rw [if_neg hx] at hr ⊢
      exact ih hr
theorem RowsC.any (h : RowsC M u R A) (x : Str) : (A.any fun p => decide (p.1 = x)) = R.any fun p => decide (p.1 = x) := by
  induction h with
  | nil => rfl
  | cons _ _ _ ih => rw [List.any_cons, List.any_cons, ih]
theorem RowsC.mapput (h : RowsC M u R A) {x : Str} {row : List Str} {a : Nat} (h1 : M[a]? = some (rowC row)) (h2 : a < u) : RowsC M u (R.map fun p => if p.1 = x then (p.1, row) else p) (A.map fun p => if p.1 = x then (p.1, a) else p) := by
  induction h with
  | nil => exact .nil
  | @cons y row' b R A g1 g2 _ ih =>
    rw [List.map_cons, List.map_cons]
    by_cases hx : y = x
    · rw [if_pos hx, if_pos hx]
      exact .cons h1 h2 ih
    · rw [if_neg hx, if_neg hx]
      exact .cons g1 g2 ih
theorem RowsC.snoc (h : RowsC M u R A) {x : Str} {row : List Str} {a : Nat} (h1 : M[a]? = some (rowC row)) (h2 : a < u) : RowsC M u (R ++ [(x, row)]) (A ++ [(x, a)]) := by
  induction h with
  | nil => exact .cons h1 h2 .nil
  | cons g1 g2 _ ih => exact .cons g1 g2 ih
theorem RowsC.put (h : RowsC M u R A) {x : Str} {row : List Str} {a : Nat} (h1 : M[a]? = some (rowC row)) (h2 : a < u) : RowsC M u (putL R x row) (putL A x a) := by
  unfold putL
  rw [h.any x]
  split
  · exact h.mapput h1 h2
  · exact h.snoc h1 h2
theorem deep_row {f : Nat} {a : Nat} {row : List Str} (h : M[a]? = some (rowC row)) : PV.deep M (f + 2) (.ref a) = some ((eL eS) row) := deep_dats h
theorem RowsC.deep (h : RowsC M u R A) : rdAllK (PV.deep M 8) (A.map entA) = some (R.map (eP eS (eL eS))) := by
  induction h with
  | nil => rfl
  | @cons y row a R A h1 _ _ ih =>
    show (PV.deep M 8 (.ref a)).bind _ = _
    rw [deep_row (f := 6) h1, Option.bind_some, ih]
    rfl
theorem keyS (x y : Str) : (keyOf (eS x) = some (.inr y : Key)) ↔ x = y := by
  constructor
  · intro h
    cases h
    rfl
  · rintro rfl
    rfl
theorem pvGetA (A : DLA) (k : Str) : pvGet (A.map entA) (.inr k) = (Cm.look A k).map .ref := by
  unfold pvGet Cm.look
  induction A with
  | nil => rfl
  | cons p A ih =>
    rw [List.map_cons, List.find?_cons, List.find?_cons]
    have e : decide (keyOf (entA p).1 = some (.inr k : Key)) = decide (p.1 = k) := decide_eq_decide.mpr (keyS p.1 k)
    rw [e]
    by_cases h : p.1 = k
    · rw [decide_eq_true h]
      rfl
    · rw [decide_eq_false h]
      exact ih
theorem pvPutA (A : DLA) (k : Str) (a : Nat) : pvPut (A.map entA) (.inr k) (.ref a) = (putL A k a).map entA := by
  have e1 : ((A.map entA).any fun p => decide (keyOf p.1 = some (.inr k : Key))) = A.any fun p => decide (p.1 = k) := by
    rw [List.any_map]
    congr 1
    funext p
    exact decide_eq_decide.mpr (keyS p.1 k)
  unfold pvPut putL
  rw [e1]
  split
  · rw [List.map_map, List.map_map]
    refine List.map_congr_left fun p _ => ?_
    show (if keyOf (eS p.1) = some (.inr k : Key) then (eS p.1, PV.ref a) else entA p) = entA (if p.1 = k then (p.1, a) else p)
    by_cases h : p.1 = k
    · rw [if_pos h, if_pos ((keyS p.1 k).mpr h)]
      rfl
    · rw [if_neg h, if_neg (fun q => h ((keyS p.1 k).mp q))]
  · rw [List.map_append]
    rfl
def DictAt (M : List MC) (d u : Nat) (R : DL) : Prop := d < u ∧ ∃ A : DLA, M[d]? = some (.dct (A.map entA)) ∧ RowsC M u R A
theorem DictAt.keep (h : DictAt M d u R) (k : ∀ j, j < u → M'[j]? = M[j]?) {u' : Nat} (hu : u ≤ u') : DictAt M' d u' R := by
  obtain ⟨h1, A, h2, h3⟩ := h
  exact ⟨by omega, A, (k _ h1).trans h2, h3.keep k hu⟩
theorem DictAt.deep (h : DictAt M d u R) : PV.deep M 9 (.ref d) = some ((eM eS (eL eS)) R) := by
  obtain ⟨h1, A, h2, h3⟩ := h
  unfold PV.deep
  simp only [h2]
  rw [h3.deep]
  rfl
theorem DictAt.get (h : DictAt M d u R) {x : Str} {row : List Str} (hr : Cm.look R x = some row) : ∃ a, pPdx M (.ref d) (eS x) = some (.ref a) ∧ M[a]? = some (rowC row) ∧ a < u := by
  obtain ⟨h1, A, h2, h3⟩ := h
  obtain ⟨a, e, g1, g2⟩ := h3.look hr
  exact ⟨a, pdx_of h2 (by rw [pvGetA, e]; rfl), g1, g2⟩
theorem DictAt.put (h : DictAt M d u R) (hl : R.length < 100000) {x : Str} {row : List Str} {a : Nat} (h1 : M[a]? = some (rowC row)) (h2 : a < u) :
    ∃ M', ((keyOf (eS x)).bind fun q => setDP M (.ref d) q (.ref a)) = some M' ∧ DictAt M' d u (putL R x row) ∧ M'.length = M.length := by
  obtain ⟨g1, A, g2, g3⟩ := h
  have hlt := (List.getElem?_eq_some_iff.mp g2).1
  have hA := g3.len
  refine ⟨M.set d (.dct ((putL A x a).map entA)), ?_, ⟨g1, putL A x a, List.getElem?_set_self hlt, ?_⟩, List.length_set⟩
  · exact setD_of g2 (by rw [List.length_map, hA]; exact hl) (pvPutA A x a)
  · have ne : ∀ {b : Nat} {row : List Str}, M[b]? = some (rowC row) → (M.set d (.dct ((putL A x a).map entA)))[b]? = some (rowC row) := fun {b row} hb => by
      rw [List.getElem?_set_ne (fun q => by rw [← q, g2] at hb; unfold rowC at hb; cases hb)]
      exact hb
    have k1 : RowsC (M.set d (.dct ((putL A x a).map entA))) u R A := by
      clear h1 h2 hlt g2 hA hl
      generalize (M.set d (.dct ((putL A x a).map entA))) = M' at ne
      induction g3 with
      | nil => exact .nil
      | cons q1 q2 _ ih => exact .cons (ne q1) q2 ih
    exact k1.put (ne h1) h2
end
inductive SomeC (M : List MC) (s : Nat) : List PV → List (List Str) → Prop
  | nil : SomeC M s [] []
  | cons {a : Nat} {row : List Str} {ps : List PV} {rs : List (List Str)} : M[a]? = some (rowC row) → s < a → SomeC M s ps rs → SomeC M s (.ref a :: ps) (row :: rs)
structure IntoSt (M1 : List MC) (s : Nat) (ss : List (List Str)) (M : List MC) : Prop where
  low : ∀ j, j < s → M[j]? = M1[j]?
  ex : ∃ ps, M[s]? = some (.lst ps) ∧ SomeC M s ps ss
section
variable {M M' M1 : List MC} {u d s : Nat} {ps : List PV} {rs : List (List Str)}
theorem SomeC.keep (h : SomeC M s ps rs) (k : ∀ j, s < j → j < M.length → M'[j]? = M[j]?) : SomeC M' s ps rs := by
  induction h with
  | nil => exact .nil
  | cons h1 h2 _ ih => exact .cons ((k _ h2 (List.getElem?_eq_some_iff.mp h1).1).trans h1) h2 ih
theorem SomeC.snoc (h : SomeC M s ps rs) {a : Nat} {row : List Str} (h1 : M[a]? = some (rowC row)) (h2 : s < a) : SomeC M s (ps ++ [.ref a]) (rs ++ [row]) := by
  induction h with
  | nil => exact .cons h1 h2 .nil
  | cons g1 g2 _ ih => exact .cons g1 g2 ih
theorem SomeC.len (h : SomeC M s ps rs) : ps.length = rs.length := by
  induction h with
  | nil => rfl
  | cons _ _ _ ih => rw [List.length_cons, List.length_cons, ih]
theorem SomeC.deep (h : SomeC M s ps rs) : rdAllP (PV.deep M 8) ps = some (rs.map (eL eS)) := by
  induction h with
  | nil => rfl
  | cons h1 _ _ ih =>
    show (PV.deep M 8 (.ref _)).bind _ = _
    rw [deep_row (f := 6) h1, Option.bind_some, ih]
    rfl
theorem SomeC.zip (h : SomeC M s ps rs) : ∀ z ∈ ps.zip rs, ∃ a, z.1 = PV.ref a ∧ z.2 ∈ rs ∧ M[a]? = some (rowC z.2) ∧ s < a := by
  induction h with
  | nil => intro z hz; simp at hz
  | @cons a row ps rs h1 h2 _ ih =>
    intro z hz
    rw [List.zip_cons_cons] at hz
    rcases List.mem_cons.mp hz with rfl | hz
    · exact ⟨a, rfl, List.mem_cons_self, h1, h2⟩
    · obtain ⟨b, e, m, g⟩ := ih z hz
      exact ⟨b, e, List.mem_cons_of_mem _ m, g⟩
theorem SomeC.mem (h : SomeC M s ps rs) : ∀ r ∈ rs, ∃ p, (p, r) ∈ ps.zip rs := by
  induction h with
  | nil => intro r hr; cases hr
  | @cons a row ps rs h1 h2 _ ih =>
    intro r hr
    rw [List.zip_cons_cons]
    rcases List.mem_cons.mp hr with rfl | hr
    · exact ⟨_, List.mem_cons_self⟩
    · obtain ⟨p, e⟩ := ih r hr
      exact ⟨p, List.mem_cons_of_mem _ e⟩
theorem zip_mapR {α β γ : Type} (f : β → γ) : ∀ (ps : List α) (rs : List β), ps.zip (rs.map f) = (ps.zip rs).map fun z => (z.1, f z.2)
  | [], _ => rfl
  | _ :: _, [] => rfl
  | p :: ps, r :: rs => by
    rw [List.map_cons, List.zip_cons_cons, List.zip_cons_cons, List.map_cons, zip_mapR f ps rs]
theorem isLP_at {n : Nat} (h : M[n]? = some (.lst ps)) : gd (isLP M (.ref n) = true) = some () := gd_eq (by unfold isLP; simp only [h])
theorem app_at {n : Nat} (h : M[n]? = some (.lst ps)) (hl : ps.length < 100000) (y : PV) : gAppP M (.ref n) [y] = some (.dat .none, M.set n (.lst (ps ++ [y]))) := by
  unfold gAppP
  simp only [h]
  rw [if_pos hl]
theorem into_b2S {H : DH} {R : DL} {y : Str} {hy : Int} {w : Way} {u v : Str} {ss : List (List Str)} (hH : ∀ x row, look R x = some row → (∃ h, look H x = some h) ∧ row.length ≤ 1000) (h0 : look H y = some hy) (hs : ss.length < 90000) (hd : DictAt M1 d s R) (st : IntoSt M1 s ss M) :
    ∃ M', P_rows_into_b2 H (.ref d) y w (u, v) (.ref s, M) = some (.ref s, M') ∧ IntoSt M1 s (ss ++ tkR H R y hy (w, u, v)) M' := by
  have hdM : DictAt M d s R := hd.keep st.low (Nat.le_refl _)
  have hdec : (decM decS (decL decS)).f ((eM eS (eL eS)) R) = some R := Dec.cmp (decM decS (decL decS)) R
  by_cases hv : v = y
  · cases hr : look R u with
    | none =>
      have e0 : tkR H R y hy (w, u, v) = [] := by
        unfold tkR
        dsimp only
        rw [if_pos hv, hr]
      refine ⟨M, ?_, by rw [e0, List.append_nil]; exact st⟩
      unfold P_rows_into_b2
      refine bE (v := false) ?_ (bE (v := (.ref s, M)) (if_neg Bool.false_ne_true) rfl)
      refine (if_pos (decide_eq_true hv)).trans ?_
      refine bE hdM.deep ?_
      refine bE hdec ?_
      refine bE (v := false) ?_ rfl
      exact if_neg (by rw [hr]; exact Bool.false_ne_true)
    | some row =>
      obtain ⟨⟨h, e⟩, few⟩ := hH u row hr
      have ht : ((if decide (v = y) = true then
          (PV.deep M 9 (.ref d)).bind fun d5 =>
          ((decM decS (decL decS)).f d5).bind fun v6 =>
          (if (look v6 u).isSome = true then
            (look H u).bind fun t7 =>
            (look H y).bind fun t8 =>
            some (decide ((t7 + w.2.2.2.2) = t8))
          else
            some false).bind fun z9 =>
          some z9
        else
          some false) : Option Bool) = some (decide (h + w.2.2.2.2 = hy)) := by
        refine (if_pos (decide_eq_true hv)).trans ?_
        refine bE hdM.deep ?_
        refine bE hdec ?_
        refine bE (v := decide (h + w.2.2.2.2 = hy)) ?_ rfl
        refine (if_pos (by rw [hr]; rfl)).trans ?_
        rw [e, h0]
        rfl
      by_cases hq : h + w.2.2.2.2 = hy
      · have e0 : tkR H R y hy (w, u, v) = [row ++ [w.1]] := by
          unfold tkR
          dsimp only
          rw [if_pos hv, hr, e]
          exact if_pos hq
        obtain ⟨a, pa, ha, hlt⟩ := hdM.get hr
        obtain ⟨ps, hp, hC⟩ := st.ex
        have hsl := (List.getElem?_eq_some_iff.mp hp).1
        have hpl := hC.len
        have hp' : (M ++ [rowC (row ++ [w.1])])[s]? = some (.lst ps) := by rw [List.getElem?_append_left hsl]; exact hp
        have hnew : (M ++ [rowC (row ++ [w.1])])[M.length]? = some (rowC (row ++ [w.1])) := by simp
        refine ⟨(M ++ [rowC (row ++ [w.1])]).set s (.lst (ps ++ [.ref M.length])), ?_, ⟨fun j hj => ?_, ps ++ [.ref M.length], List.getElem?_set_self (by rw [List.length_append]; omega), ?_⟩⟩
        · unfold P_rows_into_b2
          refine bE ht ?_
          rw [decide_eq_true hq]
          refine bE (v := (PV.ref s, (M ++ [rowC (row ++ [w.1])]).set s (.lst (ps ++ [.ref M.length])))) ?_ rfl
          refine (if_pos rfl).trans ?_
          refine bE (isLP_at hp) ?_
          refine bE pa ?_
          refine bE (deep_row (f := 7) ha) ?_
          refine bE (v := row) (Dec.cmp (decL decS) row) ?_
          refine bE (cat_eq (by simp; omega)) ?_
          refine bE (v := M ++ [rowC (row ++ [w.1])]) rfl ?_
          exact bE (app_at hp' (by omega) _) rfl
        · rw [List.getElem?_set_ne (by omega), List.getElem?_append_left (by omega)]
          exact st.low j hj
        · rw [e0]
          refine SomeC.snoc ?_ ?_ hsl
          · exact hC.keep fun j h1 h2 => by rw [List.getElem?_set_ne (by omega), List.getElem?_append_left h2]
          · rw [List.getElem?_set_ne (by omega)]
            exact hnew
      · have e0 : tkR H R y hy (w, u, v) = [] := by
          unfold tkR
          dsimp only
          rw [if_pos hv, hr, e]
          exact if_neg hq
        refine ⟨M, ?_, by rw [e0, List.append_nil]; exact st⟩
        unfold P_rows_into_b2
        refine bE ht ?_
        rw [decide_eq_false hq]
        exact bE (v := (.ref s, M)) (if_neg Bool.false_ne_true) rfl
  · have e0 : tkR H R y hy (w, u, v) = [] := by
      unfold tkR
      exact if_neg hv
    refine ⟨M, ?_, by rw [e0, List.append_nil]; exact st⟩
    unfold P_rows_into_b2
    refine bE (v := false) (if_neg (by rw [decide_eq_false hv]; exact Bool.false_ne_true)) ?_
    exact bE (v := (.ref s, M)) (if_neg Bool.false_ne_true) rfl
theorem into_S {H : DH} {R : DL} {y : Str} {hy : Int} {ways : List Way} (hH : ∀ x row, look R x = some row → (∃ h, look H x = some h) ∧ row.length ≤ 1000) (h0 : look H y = some hy) (hl : ways.length ≤ 100) (hd : DictAt M d M.length R) :
    ∃ M', P_rows_into ways H (.ref d) y M = some (.ref M.length, M') ∧ IntoSt M M.length ((twice ways).flatMap (tkR H R y hy)) M' := by
  have key : ∀ (l : List Way) (ss : List (List Str)) (Mk : List MC), ss.length + 2 * l.length ≤ 300 → IntoSt M M.length ss Mk → ∃ M', forP (P_rows_into_b4 H (.ref d) y) l (PV.ref M.length, Mk) = some (PV.ref M.length, M') ∧ IntoSt M M.length (ss ++ (twice l).flatMap (tkR H R y hy)) M' := fun l => by
    induction l with
    | nil => intro ss Mk _ st; exact ⟨Mk, rfl, by simpa [twice] using st⟩
    | cons w l ih =>
      intro ss Mk hs st
      rw [List.length_cons] at hs
      have l1 := tkR_len H R y hy (w, w.2.1, w.2.2.1)
      have l2 := tkR_len H R y hy (w, w.2.2.1, w.2.1)
      obtain ⟨Ma, ea, sa⟩ := into_b2S (w := w) (u := w.2.1) (v := w.2.2.1) hH h0 (by omega) hd st
      obtain ⟨Mb, eb, sb⟩ := into_b2S (w := w) (u := w.2.2.1) (v := w.2.1) hH h0 (by rw [List.length_append]; omega) hd sa
      obtain ⟨Mc, ec, sc⟩ := ih _ Mb (by rw [List.length_append, List.length_append]; omega) sb
      refine ⟨Mc, ?_, ?_⟩
      · show (P_rows_into_b4 H (.ref d) y w (PV.ref M.length, Mk)).bind _ = _
        have : P_rows_into_b4 H (.ref d) y w (PV.ref M.length, Mk) = some (PV.ref M.length, Mb) := by
          unfold P_rows_into_b4
          refine bE (v := ((w.2.1, w.2.2.1), (w.2.2.1, w.2.1))) rfl ?_
          refine bE (v := (PV.ref M.length, Mb)) ?_ rfl
          show (P_rows_into_b2 H (.ref d) y w (w.2.1, w.2.2.1) (PV.ref M.length, Mk)).bind (fun s => (P_rows_into_b2 H (.ref d) y w (w.2.2.1, w.2.1) s).bind fun s => some s) = _
          rw [ea, Option.bind_some, eb]
          rfl
        rw [this, Option.bind_some]
        exact ec
      · have : twice (w :: l) = (w, w.2.1, w.2.2.1) :: (w, w.2.2.1, w.2.1) :: twice l := rfl
        rw [this, List.flatMap_cons, List.flatMap_cons]
        rw [List.append_assoc, List.append_assoc] at sc
        exact sc
  have st0 : IntoSt M M.length [] (M ++ [.lst []]) := ⟨fun j hj => List.getElem?_append_left hj, [], by simp, .nil⟩
  obtain ⟨M', e, st⟩ := key ways [] (M ++ [.lst []]) (by simp; omega) st0
  refine ⟨M', ?_, by simpa using st⟩
  unfold P_rows_into
  refine bE (v := M ++ [.lst []]) rfl ?_
  exact bE e rfl
theorem rank_wpS (hC : SomeC M s ps rs) (hp : M[s]? = some (.lst ps)) (hne : rs ≠ []) (hl : rs.length ≤ 1000) (few : ∀ r ∈ rs, r.length ≤ 1000) (ok : ∀ r ∈ rs, ∀ x ∈ r, PyData.strOk x = true) :
    ∃ qs a m, sortRkP M (.ref s) = some qs ∧ atI qs 0 = some (.ref a) ∧ M[a]? = some (rowC m) ∧ s < a ∧ m ∈ rs ∧ ∀ r ∈ rs, leV (rkV m) (rkV r) := by
  have ly : ∀ r ∈ rs, Lay (eL eS r) 1 := fun r hr => layL fun d hd => by
    obtain ⟨s, hs, rfl⟩ := List.mem_map.mp hd
    exact layS (ok r hr s hs)
  have c1 : PyData.canLayAll0 (rs.map (eL eS)) = true := by
    have : Lay (.list (rs.map (eL eS))) 2 := layL fun d hd => by
      obtain ⟨r, hr, rfl⟩ := List.mem_map.mp hd
      exact ly r hr
    have := this.can
    simpa [PyData.canLay0] using this
  have c2 : sortB (rs.map (rkD eS)) = true := sortB_of (by omega) (.inl fun x _ => rfl) (fun x _ y _ => by
    show PySem.W.alike (.tuple [.int x.length, .list (x.map eS)]) (.tuple [.int y.length, .list (y.map eS)]) = true
    simp [PySem.W.alike, PySem.W.alikeAll, alike_strs]) fun x hx => (layT (k := 1) fun d hd => by
    rcases List.mem_cons.mp hd with rfl | hd
    · exact (layI _).mono (by omega)
    · rw [List.mem_singleton] at hd
      subst hd
      exact ly x hx : Lay (rkD eS x) 2).mono (by omega)
  have hz : ps.zip rs ≠ [] := by
    obtain ⟨r, hr⟩ := List.exists_mem_of_ne_nil _ hne
    obtain ⟨p, hp⟩ := hC.mem r hr
    exact List.ne_nil_of_mem hp
  have hS : (ps.zip (rs.map (rkD eS))).mergeSort (PySem.W.dataLe false (fun b : PV × PyData => b.2)) = ((ps.zip rs).mergeSort fun a b : PV × List Str => PySem.W.dataLe false (rkD eS) a.2 b.2).map fun z => (z.1, rkD eS z.2) := by
    rw [zip_mapR]
    exact (List.map_mergeSort (r := fun a b : PV × List Str => PySem.W.dataLe false (rkD eS) a.2 b.2) (s := PySem.W.dataLe false (fun b : PV × PyData => b.2)) (f := fun z : PV × List Str => (z.1, rkD eS z.2)) (l := ps.zip rs) (fun a _ b _ => rfl)).symm
  obtain ⟨m, e1, e2, e3⟩ := sort_head (l := ps.zip rs) (le := fun a b : PV × List Str => PySem.W.dataLe false (rkD eS) a.2 b.2) (fun a b c h1 h2 => by
    rw [rk_le, leV_b] at *
    exact leV_trans h1 h2) (fun a b => by
    rw [rk_le, rk_le]
    rcases leV_total (rkV a.2) (rkV b.2) with h | h
    · rw [(leV_b _ _).mpr h]; rfl
    · rw [(leV_b _ _).mpr h, Bool.or_true]) hz
  obtain ⟨a, ea, hrow, ha, hsa⟩ := hC.zip m e2
  refine ⟨sortPK ps (rs.map (rkD eS)), a, m.2, ?_, ?_, ha, hsa, hrow, fun r hr => ?_⟩
  · unfold sortRkP
    refine bE (v := ps) (by unfold partsP; simp only [hp]) ?_
    refine bE (v := .list (rs.map (eL eS))) (by unfold PV.deep; simp only [hp]; rw [hC.deep]; rfl) ?_
    refine bE (v := rs.map (rkD eS)) ?_ (if_pos ⟨c1, c2⟩)
    rw [keys_rank, if_pos fun r hr => by have := few r hr; omega]
  · unfold sortPK
    rw [hS, atI_map, atI_map]
    rw [show atI ((ps.zip rs).mergeSort fun a b : PV × List Str => PySem.W.dataLe false (rkD eS) a.2 b.2) 0 = some m from e1]
    show some m.1 = _
    rw [ea]
  · obtain ⟨p, hp2⟩ := hC.mem r hr
    have := e3 _ hp2
    rw [rk_le, leV_b] at this
    exact this
end
structure RowsB (ways : List Way) (c : Str) (R : DL) : Prop where
  best : ∀ x row, look R x = some row → ∃ h, Best ways c x (h, row)
  self : look R c = some []
section
variable {M : List MC} {d : Nat}
theorem best_nextS {ways : List Way} {c y : Str} {hy : Int} {H : DH} {R : DL} (P : Pos ways) (O : okW ways) (hl : ways.length ≤ 100) (hH : ToldH ways c H) (hR : RowsB ways c R) (hyc : y ≠ c) (h0 : Ht ways c y hy) (all : ∀ x h, Ht ways c x h → h < hy → ∃ row, look R x = some row) (hd : DictAt M d M.length R) (hRl : R.length < 90000) :
    ∃ M1 qs a m M2, P_rows_into ways H (.ref d) y M = some (.ref M.length, M1) ∧ sortRkP M1 (.ref M.length) = some qs ∧ PV.ix (M1 ++ [.lst qs]) (.ref M1.length) 0 = some (.ref a) ∧
      ((keyOf (eS y)).bind fun q => setDP (M1 ++ [.lst qs]) (.ref d) q (.ref a)) = some M2 ∧ DictAt M2 d M2.length (putL R y m) ∧ Best ways c y (hy, m) := by
  have lk : ∀ x row, look R x = some row → (∃ h, look H x = some h) ∧ row.length ≤ 1000 := fun x row e => by
    obtain ⟨h, b⟩ := hR.best x row e
    have := b.few P
    exact ⟨⟨h, (hH.is _ _).mpr b.ht⟩, by dsimp only at this; omega⟩
  obtain ⟨M1, e1, st⟩ := into_S lk ((hH.is _ _).mpr h0) hl hd
  obtain ⟨ps, hp, hC⟩ := st.ex
  have mem : ∀ r, r ∈ (twice ways).flatMap (tkR H R y hy) ↔ ∃ w x row h, w ∈ ways ∧ goes w x y ∧ look R x = some row ∧ look H x = some h ∧ h + w.2.2.2.2 = hy ∧ r = row ++ [w.1] := fun r => by
    rw [List.mem_flatMap]
    constructor
    · rintro ⟨t, ht, hr⟩
      obtain ⟨hw, hg⟩ := twice_mem.mp ht
      unfold tkR at hr
      split at hr
      · rename_i hty
        split at hr
        · rename_i row h er eh
          split at hr
          · rename_i hq
            rw [List.mem_singleton] at hr
            refine ⟨t.1, t.2.1, row, h, hw, ?_, er, eh, hq, hr⟩
            rw [← hty]
            exact hg.elim (fun q => .inl q) fun q => .inr q
          · simp at hr
        · simp at hr
      · simp at hr
    · rintro ⟨w, x, row, h, hw, hg, er, eh, hq, rfl⟩
      refine ⟨(w, x, y), twice_mem.mpr ⟨hw, hg⟩, ?_⟩
      unfold tkR
      dsimp only
      rw [if_pos rfl, er, eh]
      dsimp only
      rw [if_pos hq]
      simp
  have got : ∀ r ∈ (twice ways).flatMap (tkR H R y hy), Wn ways c r y hy := fun r hr => by
    obtain ⟨w, x, row, h, hw, hg, er, eh, hq, rfl⟩ := (mem r).mp hr
    obtain ⟨h', b⟩ := hR.best x row er
    have e := b.ht.uniq ((hH.is _ _).mp eh)
    dsimp only at e
    subst e
    rw [← hq]
    exact .step b.got hw hg
  have okn : ∀ w ∈ ways, PyData.strOk w.1 = true := fun w hw => (O w hw).1
  have few : ∀ r ∈ (twice ways).flatMap (tkR H R y hy), r.length ≤ 1000 := fun r hr => by
    obtain ⟨ws, t, e⟩ := (got r hr).wk.tight h0
    have := t.len P
    omega
  have hne : (twice ways).flatMap (tkR H R y hy) ≠ [] := by
    rcases h0.back P with ⟨e, _⟩ | ⟨w, x, h', hw, hg, a, e⟩
    · exact absurd e hyc
    · have hp := P w hw
      obtain ⟨row, er⟩ := all x h' a (by omega)
      exact List.ne_nil_of_mem ((mem (row ++ [w.1])).mpr ⟨w, x, row, h', hw, hg, er, (hH.is _ _).mpr a, e.symm, rfl⟩)
  have many : ((twice ways).flatMap (tkR H R y hy)).length ≤ 1000 := by
    have : ∀ l : List (Way × Str × Str), (l.flatMap (tkR H R y hy)).length ≤ l.length := fun l => by
      induction l with
      | nil => simp
      | cons t l ih =>
        have := tkR_len H R y hy t
        rw [List.flatMap_cons, List.length_append, List.length_cons]
        omega
    have h1 := this (twice ways)
    rw [twice_len] at h1
    omega
  obtain ⟨qs, a, m, e2, e3, ha, hsa, m1, m2⟩ := rank_wpS hC hp hne many few fun r hr => (got r hr).ok okn
  have hB : Best ways c y (hy, m) := ⟨got m m1, h0, fun r g => by
    rcases g.last with ⟨_, e, _⟩ | ⟨r0, x, h1, w, g0, hw, hg, rfl, e⟩
    · exact absurd e hyc
    · dsimp only at e g
      have hp := P w hw
      have a : Ht ways c x h1 := ⟨⟨_, g0.wk⟩, fun k h' g' => by
        have := h0.low _ _ (Wk.step g' hw hg)
        omega⟩
      obtain ⟨row, er⟩ := all x h1 a (by omega)
      obtain ⟨h2, b⟩ := hR.best x row er
      have e2 := b.ht.uniq a
      dsimp only at e2
      exact leV_trans (m2 _ ((mem (row ++ [w.1])).mpr ⟨w, x, row, h1, hw, hg, er, (hH.is _ _).mpr a, e.symm, rfl⟩)) (b.step g0 e2)⟩
  have hsl := (List.getElem?_eq_some_iff.mp hp).1
  have hal := (List.getElem?_eq_some_iff.mp ha).1
  have hdM : DictAt (M1 ++ [MC.lst qs]) d (M1 ++ [MC.lst qs]).length R := hd.keep (fun j hj => by rw [List.getElem?_append_left (by omega)]; exact st.low j hj) (by rw [List.length_append]; omega)
  have ha' : (M1 ++ [MC.lst qs])[a]? = some (rowC m) := by rw [List.getElem?_append_left hal]; exact ha
  obtain ⟨M2, e4, hd2, hl2⟩ := hdM.put (by omega) (x := y) ha' (by rw [List.length_append]; omega)
  refine ⟨M1, qs, a, m, M2, e1, e2, ?_, e4, by rw [hl2]; exact hd2, hB⟩
  show PV.ix (M1 ++ [.lst qs]) (.ref M1.length) 0 = _
  unfold PV.ix
  have : (M1 ++ [MC.lst qs])[M1.length]? = some (.lst qs) := by simp
  simp only [this]
  exact e3
theorem least_wpS {ways : List Way} {c other : Str} (P : Pos ways) (O : okW ways) (hc : PyData.strOk c = true) (hl : ways.length ≤ 100) (M0 : List MC) : Wp (P_least_row ways c other M0) fun z => (∀ v, Best ways c other v → ∃ a, z.1 = .ref a ∧ z.2[a]? = some (rowC v.2)) ∧ ((∀ h, ¬ Ht ways c other h) → z.1 = .dat .none) := by
  unfold P_least_row
  refine wp_bind (heights_of_wp P O hc hl) fun H hH => ?_
  have hm : mergeL [] H = H := by
    have := merge_new H [] hH.nd (by simp)
    rw [List.nil_append] at this
    exact this
  have hf := hH.few
  refine wp_let ?_
  refine wp_let ?_
  rw [hm]
  refine wp_be (gd_eq (by rw [List.length_map]; omega)) ?_
  have m1 : mapO (P_least_row_l2 H) (H.map Prod.fst) = some (H.map fun p => (p.2, p.1)) := by
    rw [mapO_map]
    refine mapO_eq fun p hp => ?_
    unfold P_least_row_l2
    rw [look_mem hH.nd hp]
    rfl
  refine wp_be m1 ?_
  have hb : sortB ((H.map fun p => (p.2, p.1)).map (eT2 eI eS)) = true := sortB_of (by rw [List.length_map]; omega) (.inl fun x _ => rfl) (fun x _ y _ => by
    show PySem.W.alike (.tuple [.int x.1, .str x.2]) (.tuple [.int y.1, .str y.2]) = true
    simp [PySem.W.alike, PySem.W.alikeAll]) fun x hx => by
    obtain ⟨p, hp, rfl⟩ := List.mem_map.mp hx
    exact (layT (k := 0) fun d hd => by
      rcases List.mem_cons.mp hd with rfl | hd
      · exact layI _
      · rw [List.mem_singleton] at hd
        subst hd
        exact layS (hH.ok p hp) : Lay (eT2 eI eS (p.2, p.1)) 1).mono (by omega)
  refine wp_be (sort_eq hb) ?_
  have hp := List.mergeSort_perm (H.map fun p => (p.2, p.1)) (PySem.W.dataLe false (eT2 eI eS))
  have hs := List.pairwise_mergeSort (le := PySem.W.dataLe false (eT2 eI eS)) (fun a b d h1 h2 => by
    rw [pair_le, leV_b] at *
    exact leV_trans h1 h2) (fun a b => by
    rw [pair_le, pair_le]
    rcases leV_total (a.1, [a.2]) (b.1, [b.2]) with h | h
    · rw [(leV_b _ _).mpr h]; rfl
    · rw [(leV_b _ _).mpr h, Bool.or_true]) (H.map fun p => (p.2, p.1))
  generalize (H.map fun p => (p.2, p.1)).mergeSort (PySem.W.dataLe false (eT2 eI eS)) = S at hp hs
  have hS : ∀ h x, (h, x) ∈ S ↔ Ht ways c x h := fun h x => by
    rw [hp.mem_iff, List.mem_map]
    constructor
    · rintro ⟨p, hpH, e⟩
      cases e
      exact (hH.is _ _).mp (look_mem hH.nd hpH)
    · intro a
      exact ⟨(x, h), look_some ((hH.is _ _).mpr a), rfl⟩
  have hup : S.Pairwise fun a b => a.1 ≤ b.1 := hs.imp fun {a b} h => by
    rw [pair_le, leV_b] at h
    unfold leV ltV at h
    dsimp only at h
    by_cases e : b.1 = a.1
    · omega
    · rw [if_neg e] at h
      have := of_decide_eq_false h
      omega
  have hSl : S.length ≤ 50000 := by rw [hp.length_eq, List.length_map]; exact hf
  have key : ∀ (rest done : List (Int × Str)) (R : DL) (M : List MC) (d : Nat), done ++ rest = S → RowsB ways c R → (∀ p ∈ done, ∃ row, look R p.2 = some row) → R.length ≤ done.length + 1 → DictAt M d M.length R →
      Wp (forP (P_least_row_b4 ways c H) rest (PV.ref d, M)) fun z => ∃ R', z.1 = .ref d ∧ DictAt z.2 d z.2.length R' ∧ RowsB ways c R' ∧ ∀ p ∈ S, ∃ row, look R' p.2 = some row := by
    intro rest
    induction rest with
    | nil => intro done R M d e hR hd _ hD; rw [List.append_nil] at e; subst e; exact ⟨_, rfl, R, rfl, hD, hR, hd⟩
    | cons p rest ih =>
      intro done R M d e hR hd hz hD
      have hdl : done.length < S.length := by rw [← e, List.length_append, List.length_cons]; omega
      obtain ⟨hy, y⟩ := p
      have hpS : (hy, y) ∈ S := by rw [← e]; simp
      have a := (hS hy y).mp hpS
      have hb : ∃ M1 R1, P_least_row_b4 ways c H (hy, y) (PV.ref d, M) = some (PV.ref d, M1) ∧ RowsB ways c R1 ∧ (∀ p ∈ done ++ [(hy, y)], ∃ row, look R1 p.2 = some row) ∧ R1.length ≤ done.length + 2 ∧ DictAt M1 d M1.length R1 := by
        by_cases hyc : y = c
        · refine ⟨M, R, ?_, hR, fun p hp' => ?_, by omega, hD⟩
          · unfold P_least_row_b4
            refine bE (v := (PV.ref d, M)) (if_neg (by simp [hyc])) rfl
          rcases List.mem_append.mp hp' with h | h
          · exact hd p h
          · rw [List.mem_singleton] at h
            rw [h]
            exact ⟨[], by rw [show (hy, y).2 = c from hyc]; exact hR.self⟩
        · have all : ∀ x h, Ht ways c x h → h < hy → ∃ row, look R x = some row := fun x h ax hlt => by
            have hx := (hS h x).mpr ax
            rw [← e] at hx
            rcases List.mem_append.mp hx with hx | hx
            · exact hd _ hx
            · exfalso
              rw [← e] at hup
              have h2 := (List.pairwise_append.mp hup).2.1
              rcases List.mem_cons.mp hx with q | q
              · cases q
                omega
              · have := (List.pairwise_cons.mp h2).1 _ q
                dsimp only at this
                omega
          obtain ⟨M1, qs, a1, m, M2, e1, e2, e3, e4, hD2, hB⟩ := best_nextS P O hl hH hR hyc a all hD (by omega)
          refine ⟨M2, putL R y m, ?_, ⟨fun x row er => ?_, ?_⟩, fun p hp' => ?_, by have := put_len R y m; omega, hD2⟩
          · unfold P_least_row_b4
            refine bE (v := (PV.ref d, M2)) ?_ rfl
            refine (if_pos (by simp [hyc])).trans ?_
            refine bE e1 ?_
            refine bE (v := M1 ++ [.lst qs]) (by rw [e2]; rfl) ?_
            refine bE e3 ?_
            exact bE e4 rfl
          · rw [look_put] at er
            split at er
            · rename_i q
              cases er
              rw [q]
              exact ⟨hy, hB⟩
            · exact hR.best x row er
          · rw [look_put, if_neg (fun q => hyc q.symm)]
            exact hR.self
          · rw [look_put]
            split
            · exact ⟨m, rfl⟩
            · rename_i q
              rcases List.mem_append.mp hp' with h | h
              · exact hd p h
              · rw [List.mem_singleton] at h
                exact absurd (by rw [h]) q
      obtain ⟨M1, R1, e1, q1, q2, q3, q4⟩ := hb
      show Wp ((P_least_row_b4 ways c H (hy, y) (PV.ref d, M)).bind _) _
      rw [e1, Option.bind_some]
      exact ih (done ++ [(hy, y)]) R1 M1 d (by rw [List.append_assoc]; exact e) q1 q2 (by rw [List.length_append]; exact q3) q4
  have hD0 : DictAt ((M0 ++ [MC.lst []]) ++ [MC.dct [((eS c), (PV.ref M0.length))]]) (M0 ++ [MC.lst []]).length ((M0 ++ [MC.lst []]) ++ [MC.dct [((eS c), (PV.ref M0.length))]]).length [(c, [])] :=
    ⟨by simp, [(c, M0.length)], by simp [entA], .cons (by simp [rowC]) (by simp) .nil⟩
  refine wp_bind (key S [] [(c, [])] _ _ rfl ⟨fun x row er => ?_, by simp [look]⟩ (by simp) (by simp) hD0) fun z hz => ?_
  · unfold look at er
    by_cases hx : c = x
    · subst hx
      simp at er
      subst er
      exact ⟨0, Best.self P⟩
    · simp [hx] at er
  · obtain ⟨z1, M⟩ := z
    obtain ⟨R, rfl, hD, hR, hall⟩ := hz
    dsimp only at hD ⊢
    obtain ⟨hdl, A, hA, hC⟩ := hD
    refine wp_be (gd_eq (by unfold isDP; simp only [hA])) ?_
    have hg : ∀ o : Option Nat, look A other = o → gGet1 M (.ref (M0 ++ [MC.lst []]).length) (.dat (eS other)) = some ((o.map PV.ref).getD (.dat .none)) := fun o ho => by
      unfold gGet1
      show ((PV.dx M (.ref (M0 ++ [MC.lst []]).length) (.inr other)).map fun o => o.getD (.dat .none)) = _
      unfold PV.dx
      simp only [hA]
      rw [pvGetA, ho]
      rfl
    cases hq : look R other with
    | none =>
      refine wp_be (hg none (hC.look_no hq)) (wp_some ⟨fun v b => ?_, fun _ => rfl⟩)
      obtain ⟨row, er⟩ := hall (v.1, other) ((hS _ _).mpr b.ht)
      rw [show look R (v.1, other).2 = look R other from rfl, hq] at er
      cases er
    | some row =>
      obtain ⟨a, ea, ha, _⟩ := hC.look hq
      obtain ⟨h, b2⟩ := hR.best other row hq
      refine wp_be (hg (some a) ea) (wp_some ⟨fun v b => ⟨a, rfl, ?_⟩, fun hno => absurd b2.ht (hno h)⟩)
      have := b2.uniq b
      rw [← this]
      exact ha
end
theorem map_wp {b : List Int} {n m : Int} (h : Bok b n) (hm : 5 ≤ m ∧ m ≤ 10) (hn : n + 2000 < 2147483648) : Wp (P_w_map b m) fun r => ((((r.1.1.length : Int) ≤ 16 ∧ Pos r.1.1 ∧ okW r.1.1) ∧ (r.1.1.map fun w => w.1).Nodup) ∧ (∀ s ∈ r.1.2, Nm s) ∧ 1 ≤ r.1.2.length ∧ r.1.2.length ≤ 10) ∧ Bok r.2 (n + 1000) := by
  unfold P_w_map
  refine wp_bind (take_wp h (by omega) (m := m) (by omega)) fun r1 h1 => ?_
  refine wp_bind (names_wp2 h1.2 (m := 1 + r1.1) (by omega) (by omega)) fun r2 h2 => ?_
  obtain ⟨⟨⟨a1, a2⟩, _⟩, a3⟩ := h2
  refine wp_bind (take_wp a3 (by omega) (m := minI 16 (2 * m) + 1) (by unfold minI; split <;> omega)) fun r3 h3 => ?_
  have hr3 : 0 ≤ r3.1 ∧ r3.1 ≤ 16 := by
    have := h3.1.2
    unfold minI at this
    split at this <;> omega
  refine wp_bind (ways_wp h3.2 hr3 (by omega) (fun s hs => (a2 s hs).ok) (by omega)) fun r4 h4 => ?_
  exact wp_some ⟨⟨⟨⟨by have := h4.1.1; show ((r4.1.length : Nat) : Int) ≤ 16; omega, h4.1.2.1, h4.1.2.2.1⟩, h4.1.2.2.2.2⟩, a2, by dsimp only; omega, by dsimp only; omega⟩, h4.2.mono (by omega)⟩
theorem strewnS_wp {b : List Int} {n : Int} {l : List Str} (h : Bok b n) (hn : n + 200 < 2147483648) (hl : l.length ≤ 100) : Wp (P_w_strewn_2 b l) fun r => r.1.Perm l ∧ Bok r.2 (n + 100) := strewn_gen (fun _ _ => rfl) h hn hl
theorem forR_snoc {α σ ρ : Type} {f : α → σ → Option (Fw ρ σ)} (hb : ∀ x s s1, f x s ≠ some (.bk s1)) : ∀ (l : List α) {a : α} {s s' s2 : σ}, forR f l s = some (.nx s') → f a s' = some (.nx s2) → forR f (l ++ [a]) s = some (.nx s2)
  | [], a, s, s', s2, h, h2 => by
    cases h
    show (f a s).bind _ = _
    rw [h2]
    rfl
  | x :: l, a, s, s', s2, h, h2 => by
    unfold forR at h
    show forR f (x :: (l ++ [a])) s = _
    unfold forR
    cases e : f x s with
    | none => rw [e] at h; cases h
    | some w =>
      rw [e, Option.bind_some] at h
      rw [Option.bind_some]
      cases w with
      | nx s1 => exact forR_snoc hb l h h2
      | rt z => cases h
      | bk s1 => exact absurd e (hb x s s1)
theorem merge_newG {β : Type} : ∀ (l D : List (Str × β)), (l.map fun x => x.1).Nodup → (∀ x ∈ l, x.1 ∉ D.map fun x => x.1) → mergeL D l = D ++ l
  | [], D, _, _ => by simp [mergeL]
  | p :: l, D, h, hn => by
    rw [List.map_cons, List.nodup_cons] at h
    have e : mergeL D (p :: l) = mergeL (putL D p.1 p.2) l := rfl
    have hp := hn p List.mem_cons_self
    have e2 : putL D p.1 p.2 = D ++ [p] := by
      unfold putL
      rw [if_neg]
      intro hc
      obtain ⟨q, hq, hq2⟩ := List.any_eq_true.mp hc
      exact hp (List.mem_map.mpr ⟨q, hq, of_decide_eq_true hq2⟩)
    rw [e, e2, merge_newG l (D ++ [p]) h.2 fun x hx hm => ?_, List.append_assoc]
    · rfl
    · rw [List.map_append, List.mem_append] at hm
      rcases hm with hm | hm
      · exact hn x (List.mem_cons_of_mem _ hx) hm
      · rw [List.map_singleton, List.mem_singleton] at hm
        exact h.1 (hm ▸ List.mem_map.mpr ⟨x, hx, rfl⟩)
def namedW (ways : List Way) : List (Str × Way) := ways.map fun w => (w.1, w)
theorem named_look {ways : List Way} (hn : (ways.map fun w => w.1).Nodup) {w : Way} (hw : w ∈ ways) : look (mergeL [] (namedW ways)) w.1 = some w := by
  have hk : ((namedW ways).map fun p => p.1).Nodup := by
    unfold namedW
    rw [List.map_map]
    exact hn
  have := merge_newG (namedW ways) [] hk (by simp)
  rw [List.nil_append] at this
  rw [this]
  exact look_mem hk (p := (w.1, w)) (List.mem_map.mpr ⟨w, hw, rfl⟩)
theorem walked_nb (named : List (Str × Way)) (x : PyData) (s s1 : Str × Int) : P_w_walked_b4 named x s ≠ some (.bk s1) := by
  intro h
  unfold P_w_walked_b4 at h
  obtain ⟨v3, _, h⟩ := Option.bind_eq_some_iff.mp h
  obtain ⟨z6, _, h⟩ := Option.bind_eq_some_iff.mp h
  split at h
  · cases h
  · obtain ⟨v7, _, h⟩ := Option.bind_eq_some_iff.mp h
    obtain ⟨t8, _, h⟩ := Option.bind_eq_some_iff.mp h
    obtain ⟨z13, _, h⟩ := Option.bind_eq_some_iff.mp h
    obtain ⟨v14, _, h⟩ := Option.bind_eq_some_iff.mp h
    obtain ⟨t15, _, h⟩ := Option.bind_eq_some_iff.mp h
    obtain ⟨w16, _, h⟩ := Option.bind_eq_some_iff.mp h
    cases h
theorem walk_row {ways : List Way} (hn : (ways.map fun w => w.1).Nodup) {c x : Str} {r : List Str} {h : Int} (g : Wn ways c r x h) : forR (P_w_walked_b4 (mergeL [] (namedW ways))) (r.map eS) (c, 0) = some (.nx (x, h)) := by
  induction g with
  | nil => rfl
  | @step r x y h w _ hw hg ih =>
    rw [List.map_append]
    refine forR_snoc (walked_nb _) _ ih ?_
    have hl := named_look hn hw
    have hin : x ∈ [(w.2.1, w.2.2.1).1, (w.2.1, w.2.2.1).2] := by
      rcases hg with ⟨e, _⟩ | ⟨e, _⟩ <;> simp [e]
    have hy : (if decide (w.2.1 = x) = true then some w.2.2.1 else some w.2.1) = some y := by
      by_cases hx : w.2.1 = x
      · rw [if_pos (decide_eq_true hx)]
        rcases hg with ⟨_, e⟩ | ⟨e1, e2⟩
        · rw [e]
        · rw [e1, ← hx, e2]
      · rw [if_neg (by rw [decide_eq_false hx]; exact Bool.false_ne_true)]
        rcases hg with ⟨e, _⟩ | ⟨_, e⟩
        · exact absurd e hx
        · rw [e]
    unfold P_w_walked_b4
    refine bE (v := w.1) rfl ?_
    refine bE (v := false) ?_ ?_
    · refine (if_neg (by rw [hl]; exact Bool.false_ne_true)).trans ?_
      refine bE (v := w.1) rfl ?_
      refine bE hl ?_
      show some (!decide (x ∈ _)) = _
      rw [decide_eq_true hin]
      rfl
    refine (if_neg Bool.false_ne_true).trans ?_
    refine bE (v := w.1) rfl ?_
    refine bE hl ?_
    refine bE (v := y) ?_ ?_
    · refine Eq.trans ?_ hy
      show (if decide (w.2.1 = x) = true then _ else _) = _
      by_cases hx : w.2.1 = x
      · rw [if_pos (decide_eq_true hx), if_pos (decide_eq_true hx)]
        refine bE (v := w.1) rfl ?_
        exact bE hl rfl
      · rw [if_neg (by rw [decide_eq_false hx]; exact Bool.false_ne_true), if_neg (by rw [decide_eq_false hx]; exact Bool.false_ne_true)]
        refine bE (v := w.1) rfl ?_
        exact bE hl rfl
    refine bE (v := w.1) rfl ?_
    exact bE hl rfl
theorem walked_eq {ways : List Way} (hn : (ways.map fun w => w.1).Nodup) (hl : ways.length ≤ 100) {c x : Str} {r : List Str} {h : Int} (g : Wn ways c r x h) : P_w_walked ways c ((eL eS) r) = some (some (x, h)) := by
  unfold P_w_walked
  refine bE (gd_eq (by omega)) ?_
  refine bE (v := r.map eS) rfl ?_
  exact bE (walk_row hn g) rfl
theorem ht_best {ways : List Way} {c x : Str} {h : Int} {F : DR} (P : Pos ways) (hF : FndR ways c (ways.length + 1) F) (a : Ht ways c x h) : ∃ v, look F x = some v := by
  obtain ⟨k, g⟩ := a.got
  obtain ⟨ws, t, e⟩ := g.tight a
  obtain ⟨r, gr, er⟩ := g.wn
  have := t.len P
  exact hF.all x r h gr (by omega)
theorem sm_row (r : List Str) (hl : r.length ≤ 100000) : Sm 1 ((eL eS) r) := .lst (by rw [List.length_map]; exact hl) fun d hd => by
  obtain ⟨_, _, rfl⟩ := List.mem_map.mp hd
  exact .str _
theorem b2_wp {ways : List Way} {c other : Str} {T : DH} {F : DR} (P : Pos ways) (O : okW ways) (hn : (ways.map fun w => w.1).Nodup) (hc : PyData.strOk c = true) (ho : PyData.strOk other = true) (hl : ways.length ≤ 100) (hT : ToldH ways c T) (hF : FndR ways c (ways.length + 1) F) (i : Int) (M : List MC) :
    Wp (P_law_b2 ways c T other ((look F other).map fun v => v.2) i M) fun w => ∃ M', w = .nx M' := by
  unfold P_law_b2
  refine wp_bind (least_wpS P O hc hl M) fun z hz => ?_
  cases hq : look F other with
  | some v =>
    have b := (fndR_best P hF other v).mp hq
    obtain ⟨a, ea, ha⟩ := hz.1 v b
    obtain ⟨z1, M1⟩ := z
    dsimp only at ea ha ⊢
    subst ea
    have few := b.few P
    refine wp_be (deep_row (f := 7) ha) ?_
    refine wp_be (v := (eL eS) v.2) rfl ?_
    refine wp_be (same_some (sm_row v.2 (by omega)) 9 (by omega)) ?_
    refine wp_f rfl ?_
    refine wp_f rfl ?_
    refine wp_be (deep_row (f := 7) ha) ?_
    refine wp_be (v := (eL eS) v.2) rfl ?_
    refine wp_be (walked_eq hn hl b.got) ?_
    refine wp_be ((hT.is _ _).mpr b.ht) ?_
    refine wp_be (v := false) ?_ ?_
    · refine eqD_self (k := 1) (layT (k := 0) fun d hd => ?_) (by omega)
      simp only [List.mem_cons, List.not_mem_nil, or_false] at hd
      rcases hd with rfl | rfl
      · exact layS ho
      · exact layI _
    refine wp_f rfl ?_
    refine wp_be (isLP_at ha) ?_
    refine wp_be (app_at ha (by rw [List.length_map, List.length_map]; omega) _) ?_
    exact wp_some ⟨_, rfl⟩
  | none =>
    have hno : ∀ h, ¬ Ht ways c other h := fun h a => by
      obtain ⟨v, e⟩ := ht_best P hF a
      rw [hq] at e
      cases e
    have ez := hz.2 hno
    obtain ⟨z1, M1⟩ := z
    dsimp only at ez ⊢
    subst ez
    refine wp_be (v := .none) rfl ?_
    refine wp_be (v := .none) rfl ?_
    refine wp_be (same_some .non 9 (by omega)) ?_
    refine wp_f rfl ?_
    refine wp_t rfl ?_
    exact wp_some ⟨_, rfl⟩
theorem b4_wp {ways : List Way} {c other : Str} {T : DH} {F : DR} (P : Pos ways) (O : okW ways) (hn : (ways.map fun w => w.1).Nodup) (hc : PyData.strOk c = true) (ho : PyData.strOk other = true) (hl : ways.length ≤ 100) (hT : ToldH ways c T) (hF : FndR ways c (ways.length + 1) F) (M : List MC) :
    Wp (P_law_b4 ways c F T other M) fun w => ∃ M', w = .nx M' := by
  unfold P_law_b4
  refine wp_be (v := (look F other).map fun v => v.2) ?_ ?_
  · cases look F other <;> rfl
  refine wp_be (rng_eq (by omega)) ?_
  refine wp_bind (wp_loopR (I := fun _ _ => True) trivial fun j q s hq _ => ?_) fun w hw => ?_
  · refine wp_mono (b2_wp P O hn hc ho hl hT hF q s) fun w hw => ?_
    obtain ⟨M', rfl⟩ := hw
    exact ⟨M', rfl, trivial⟩
  · obtain ⟨M', rfl, _⟩ := hw
    exact wp_some ⟨M', rfl⟩
theorem b6_wp {ways : List Way} {c : Str} {asked : List Str} (P : Pos ways) (O : okW ways) (hn : (ways.map fun w => w.1).Nodup) (hc : PyData.strOk c = true) (ho : ∀ x ∈ asked, PyData.strOk x = true) (hl : ways.length ≤ 100) (M : List MC) : Wp (P_law_b6 ways asked c M) fun w => ∃ M', w = .nx M' := by
  unfold P_law_b6
  refine wp_bind (rows_fromR_wp hl fun w hw => (O w hw).1) fun F hF => ?_
  refine wp_bind (heights_of_wp P O hc hl) fun T hT => ?_
  have hm : mergeL [] T = T := by
    have := merge_new T [] hT.nd (by simp)
    rw [List.nil_append] at this
    exact this
  rw [hm]
  refine wp_bind (wp_loopR (I := fun _ _ => True) trivial fun j q s hq _ => ?_) fun w hw => ?_
  · refine wp_mono (b4_wp P O hn hc (ho q (List.mem_of_getElem? hq)) hl hT hF s) fun w hw => ?_
    obtain ⟨M', rfl⟩ := hw
    exact ⟨M', rfl, trivial⟩
  · obtain ⟨M', rfl, _⟩ := hw
    exact wp_some ⟨M', rfl⟩
theorem b8_wp {cells : List Int} {x : Int} (hx : 0 ≤ x) (M : List MC) : Wp (P_law_b8 cells x M) fun w => ∃ M', w = .nx M' := by
  unfold P_law_b8
  refine wp_bind (box_wp cells x hx) fun b hb => ?_
  refine wp_bind (take_wp hb (by omega) (m := 2) (by omega)) fun r4 h4 => ?_
  refine wp_bind (ix_menu (by omega) (by simp; omega)) fun t5 h5 => ?_
  simp at h5
  refine wp_bind (map_wp h4.2 (m := t5) (by omega) (by omega)) fun r6 h6 => ?_
  obtain ⟨⟨⟨⟨hl, P, O⟩, hn⟩, hcs, hc1, hc2⟩, h6b⟩ := h6
  refine wp_be (cat_eq (by simp; omega)) ?_
  have ho : ∀ x ∈ r6.1.2 ++ [("nowhere" : Str)], PyData.strOk x = true := fun x hx => by
    rcases List.mem_append.mp hx with hx | hx
    · exact (hcs x hx).ok
    · rw [List.mem_singleton.mp hx]
      decide +kernel
  refine wp_bind (strewnS_wp h6b (by omega) (by simp; omega)) fun r8 h8 => ?_
  refine wp_bind (wp_loopR (I := fun _ _ => True) trivial fun j q s hq _ => ?_) fun w hw => ?_
  · have hq1 := List.mem_of_getElem? hq
    rw [show cutL r8.1 none (some 4) = r8.1.take 4 from cutL_to r8.1 4] at hq1
    have hqc := ho q (h8.1.mem_iff.mp (List.mem_of_mem_take hq1))
    refine wp_mono (b6_wp P O hn hqc ho (by omega) s) fun w hw => ?_
    obtain ⟨M', rfl⟩ := hw
    exact ⟨M', rfl, trivial⟩
  · obtain ⟨M', rfl, _⟩ := hw
    simp only [Fw.on]
    refine wp_be (v := false) ?_ (wp_f rfl (wp_some ⟨M', rfl⟩))
    have hLay : Lay ((eL (eT5 eS eS eS eS eI)) r6.1.1) 2 := (layL fun d hd => by
      obtain ⟨w, hw, rfl⟩ := List.mem_map.mp hd
      obtain ⟨o1, o2, o3, o4⟩ := O w hw
      refine layT (k := 0) fun d hd => ?_
      simp only [List.mem_cons, List.not_mem_nil, or_false] at hd
      rcases hd with rfl | rfl | rfl | rfl | rfl
      · exact layS o1
      · exact layS o2
      · exact layS o3
      · exact layS o4
      · exact layI _)
    exact (eq_eq (neg := true) hLay hLay (by omega) (by omega)).trans (by rw [decide_eq_true rfl]; rfl)
theorem least_empty : PS_least_row [] "a" "a" = some (.list []) ∧ PS_least_row [] "a" "b" = some .none := by
  have P : Pos [] := fun w hw => by cases hw
  have O : okW [] := fun w hw => by cases hw
  constructor
  · obtain ⟨⟨z, M⟩, e, h1, _⟩ := least_wpS (other := "a") P O (by decide +kernel : PyData.strOk ("a" : Str) = true) (by simp) []
    obtain ⟨a, ea, ha⟩ := h1 _ (Best.self P)
    dsimp only at ea ha
    subst ea
    unfold PS_least_row
    rw [e]
    exact deep_row (f := 7) ha
  · obtain ⟨⟨z, M⟩, e, _, h2⟩ := least_wpS (other := "b") P O (by decide +kernel : PyData.strOk ("a" : Str) = true) (by simp) []
    have hno : ∀ h, ¬ Ht [] ("a" : Str) ("b" : Str) h := fun h a => by
      rcases a.back P with ⟨e, _⟩ | ⟨w, x, h', hw, _⟩
      · exact absurd e (by decide +kernel)
      · cases hw
    have ez := h2 hno
    dsimp only at ez
    subst ez
    unfold PS_least_row
    rw [e]
    rfl
theorem law_P (ns : List Int) (h63 : ns.length ≤ 63) : P_law ns = some true := by
  suffices h : Wp (P_law ns) fun r => r = true by
    obtain ⟨r, e, rfl⟩ := h
    exact e
  unfold P_law
  refine wp_bind (folded_wp ns h63 3 (by omega)) fun cs hc => ?_
  refine wp_be (rng_eq (by unfold maxI; split <;> omega)) ?_
  refine wp_bind (wp_loopR (I := fun _ _ => True) trivial fun j q s hq _ => ?_) fun w hw => ?_
  · have := rangeI_get hq
    refine wp_mono (b8_wp (by omega) s) fun w hw => ?_
    obtain ⟨M', rfl⟩ := hw
    exact ⟨M', rfl, trivial⟩
  · obtain ⟨M', rfl, _⟩ := hw
    simp only [Fw.on]
    refine wp_be least_empty.1 ?_
    refine wp_be (v := true) (by decide +kernel) ?_
    refine wp_be (v := true) ?_ (wp_some rfl)
    refine (if_pos rfl).trans ?_
    exact bE least_empty.2 rfl
theorem law_true (ns : List Int) (h63 : ns.length ≤ 63) : ∃ outs, fm_law [.scr ns] = some (.dat (.bool true), outs) := by
  rw [q_law, law_P ns h63]
  exact ⟨_, rfl⟩
end Lw
namespace Lw
open PySem PySem.Spec PyProof.Rows L2 Cm
theorem facts {P : Program} {w : World} {K : PySem.W.Frag} {h : Heap} {mg : Str → Option Value} {f : Addr} (X : K.In h) (G : h.Ns mainGlobals mg) (hfa : mg ("law" : Str) = some (.ref f)) (cX : Cm.SaysX fa fn dsC kdC w K) :
    ∃ fd : FuncData, (∀ (s : Shared) (v : Value), BindsTo s fd ⟨[v], []⟩ [("_law_script", v)]) ∧ ∀ base : Heap, K.In base → base.Ns mainGlobals mg → FnOk P w K mg base CX0 11 f fd ["_law_script"] (spLaw K) := by
  have c := cX.d
  obtain ⟨f0, F0⟩ := c.def_ 0 (d := d_w_folded) rfl
  obtain ⟨f1, F1⟩ := c.def_ 1 (d := d_w_box) rfl
  obtain ⟨f2, F2⟩ := c.def_ 2 (d := d_w_take) rfl
  obtain ⟨f3, F3⟩ := c.def_ 3 (d := d_w_names) rfl
  obtain ⟨f4, F4⟩ := c.def_ 4 (d := d_w_strewn) rfl
  obtain ⟨f5, F5⟩ := c.def_ 5 (d := d_w_ways) rfl
  obtain ⟨f6, F6⟩ := c.def_ 6 (d := d_w_map) rfl
  obtain ⟨f7, F7⟩ := c.def_ 7 (d := d_w_rows_from) rfl
  obtain ⟨f8, F8⟩ := c.def_ 8 (d := d_both_ends) rfl
  obtain ⟨f9, F9⟩ := c.def_ 9 (d := d_heights_of) rfl
  obtain ⟨f10, F10⟩ := c.def_ 10 (d := d_rows_into) rfl
  obtain ⟨f11, F11⟩ := c.def_ 11 (d := d_least_row) rfl
  obtain ⟨f12, F12⟩ := c.def_ 12 (d := d_w_same) rfl
  obtain ⟨f13, F13⟩ := c.def_ 13 (d := d_w_walked) rfl
  obtain ⟨f14, F14⟩ := c.def_ 14 (d := d_law) rfl
  obtain ⟨f15, F15⟩ := c.def_ 15 (d := d_row_rank) rfl
  have e := hfa.symm.trans (He.glo_ok X G (c.fact 14 (f := .glo "law") rfl))
  cases e
  have b := FunD.bindsA (ps := ["_law_script"]) F14 fun _ _ _ _ _ _ us hl => match us, hl with | [_], _ => rfl
  have T : Tx w K mg (fun k => ([f0, f1, f2, f3, f4, f5, f6, f7, f8, f9, f10, f11, f12, f13, f14, f15] : List FuncData).getD k f0) := ⟨F0, He.glo_ok X G (c.fact 0 (f := .glo "_law_folded") rfl), F1, He.glo_ok X G (c.fact 1 (f := .glo "_law_box") rfl), F2, He.glo_ok X G (c.fact 2 (f := .glo "_law_take") rfl), F3, He.glo_ok X G (c.fact 3 (f := .glo "_law_names") rfl), F4, He.glo_ok X G (c.fact 4 (f := .glo "_law_strewn") rfl), F5, He.glo_ok X G (c.fact 5 (f := .glo "_law_ways") rfl), F6, He.glo_ok X G (c.fact 6 (f := .glo "_law_map") rfl), F7, He.glo_ok X G (c.fact 7 (f := .glo "_law_rows_from") rfl), F8, He.glo_ok X G (c.fact 8 (f := .glo "both_ends") rfl), F9, He.glo_ok X G (c.fact 9 (f := .glo "heights_of") rfl), F10, He.glo_ok X G (c.fact 10 (f := .glo "rows_into") rfl), F11, He.glo_ok X G (c.fact 11 (f := .glo "least_row") rfl), F12, He.glo_ok X G (c.fact 12 (f := .glo "_law_same") rfl), F13, He.glo_ok X G (c.fact 13 (f := .glo "_law_walked") rfl), F14, He.glo_ok X G (c.fact 14 (f := .glo "law") rfl), F15, He.glo_ok X G (c.fact 15 (f := .glo "row_rank") rfl), He.free_ok X G (c.fact 16 (f := .free "abs") rfl), He.free_ok X G (c.fact 17 (f := .free "all") rfl), He.free_ok X G (c.fact 18 (f := .free "bool") rfl), He.free_ok X G (c.fact 19 (f := .free "dict") rfl), He.free_ok X G (c.fact 20 (f := .free "enumerate") rfl), He.free_ok X G (c.fact 21 (f := .free "int") rfl), He.free_ok X G (c.fact 22 (f := .free "isinstance") rfl), He.free_ok X G (c.fact 23 (f := .free "len") rfl), He.free_ok X G (c.fact 24 (f := .free "list") rfl), He.free_ok X G (c.fact 25 (f := .free "max") rfl), He.free_ok X G (c.fact 26 (f := .free "min") rfl), He.free_ok X G (c.fact 27 (f := .free "range") rfl), He.free_ok X G (c.fact 28 (f := .free "sorted") rfl), He.free_ok X G (c.fact 29 (f := .free "str") rfl), He.free_ok X G (c.fact 30 (f := .free "tuple") rfl), He.free_ok X G (c.fact 31 (f := .free "zip") rfl)⟩
  exact ⟨_, fun s v => b s [v] rfl, fun base _ _ => (ok_law T).imp (law_imp law_true)⟩
end Lw
theorem PySem.Challenge.cw_campcarry_k38_rows_of_least_effort_holds : PySem.Challenge.rw_campcarry_k38_rows_of_least_effort.Holds := by
  exact Lw.pre @Lw.facts
