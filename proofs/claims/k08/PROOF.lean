import PyProof.Rows.All
import Wide.All
import OpenK.AllK
import Wide.FinOn
import HandS.ForMost
import HandS.HeadHook1
import HandS.Lambda
import HandS.Exc
import HandS.Style
import HandS.Defaults
import HandS.IsInst
import HandS.SetFor
import HandS.More
import KE.KStateDown
import HandS.SortInts
import HandS.Conv
import HandS.Steps
import HandS.Zip
import HandS.Strs
import HandS.TupAny
import KE.DataMinMax
import HandS.Iter
import HandS.Dict
import KE.SortKeyHeap
import HandS.DictTup
import KE.KDictWalk
import HandS.SortKw
import HandS.HeadHook2
import HandS.Text
import PyProof.StrBlock2
import HandS.HeadEnd
import KE.GoesNew
import HandS.Wide
import PyProof.Rows.StrRev
import PyProof.SliceStr2
import PyProof.SumAny
import PyProof.SumWalkG
import PyProof.Rows.SeqMore
import HandS.SetKeys
import HandS.Flt
import HandS.Flow
import HandS.EndTab
import HandS.HeadWalk
import KE.KEqDict
import KE.KDictZip
import KE.DataFind
import KE.KDictSum
import HandS.Head0
import HandS.Head1
import HandS.Head2
import PySem.Challenge.RW_campcarry_k08_whole_measures_and_sizes
import Lean
import HandS.Ends
import HandS.Words
import HandS.WordsExc
set_option Elab.async false
set_option linter.all false
set_option maxRecDepth 100000
set_option maxHeartbeats 40000000
open Option renaming bind_some→oA,bind_eq_some_iff→oC,map_eq_some_iff→oD,map_some→OA
open PySem.W renaming Frag→oB
open List renaming getElem?_eq_some_iff→oE,getElem?_eq_getElem→oF,getElem?_set_ne→oH,length_append→oI,length_map→oJ,length_set→oK,getElem?_append_left→oL,getElem?_set_self→oM,getElem?_append_right→oN,getElem?_map→oO,length_singleton→oQ,length_replicate→oT,mem_of_getElem?→oU,mem_append→oV,mem_map→oW,mem_singleton→oX,mem_cons_of_mem→oY,append_nil→oZ,mem_cons→OB,length_cons→OC,mem_cons_self→OD
open Option.some renaming inj→oG
open Nat renaming le_of_ble_eq_true→oP
open Bool renaming and_eq_true→oS
namespace Cm
open PySem L2
theorem zAV {K:oB} {H H':Hp} {a:Addr} {xs:List V} (e:Same H H') (h:SqT K H a xs):SqT K H' a xs:=by
 rcases h with (h|⟨o,h⟩)|h
 ·exact .inl (.inl (e _ _ h))
 ·exact .inl (.inr ⟨o,e _ _ h⟩)
 ·exact .inr h
theorem zJa {H H':Hp} {a:Addr} {u:HO} (e:Same H H') (h:Rd H a u):Rd H' a u:=by
 rcases h with h|⟨o,h⟩
 ·exact .inl (e _ _ h)
 ·exact .inr ⟨o,e _ _ h⟩
def keyD:Key→PyData
 |.inl i=>.int i
 |.inr x=>.str x
mutual
inductive Dv (K:oB) (H:Hp):V→PyData→Prop
 |non:Dv K H .non .none
 |bl (b:Bool):Dv K H (.bl b) (.bool b)
 |int (i:Int):Dv K H (.int i) (.int i)
 |str (x:Str):Dv K H (.str x) (.str x)
 |lst {a:Addr} {xs:List V} {ds:List PyData}:H a=some (.lst xs)→DvAll K H xs ds→Dv K H (.ref a) (.list ds)
 |tup {a:Addr} {xs:List V} {ds:List PyData}:SqT K H a xs→DvAll K H xs ds→Dv K H (.ref a) (.tuple ds)
 |dct {a:Addr} {kvs:List (Key×V)} {es:List (PyData×PyData)}:Rd H a (.dK kvs)→DvKv K H kvs es→Dv K H (.ref a) (.dict es)
inductive DvAll (K:oB) (H:Hp):List V→List PyData→Prop
 |nil:DvAll K H [] []
 |cons {v:V} {vs:List V} {d:PyData} {ds:List PyData}:Dv K H v d→DvAll K H vs ds→DvAll K H (v::vs) (d::ds)
inductive DvKv (K:oB) (H:Hp):List (Key×V)→List (PyData×PyData)→Prop
 |nil:DvKv K H [] []
 |cons {k:Key} {v:V} {kvs:List (Key×V)} {d:PyData} {es:List (PyData×PyData)}:Dv K H v d→DvKv K H kvs es→DvKv K H ((k,v)::kvs) ((keyD k,d)::es)
end
mutual
theorem Dv.dp {K:oB} {H:Hp}:∀(d:PyData) (v:V),Dv K H v d→d.canLay0=true→Dp K H v d
 |.none,_,h,_=>by cases h;exact .non
 |.bool b,_,h,_=>by cases h;exact .bl b
 |.int i,_,h,_=>by cases h;exact .int i
 |.str x,_,h,_=>by cases h;exact .str x
 |.list ds,_,h,c=>by
  cases h with
  |lst hs ha=>exact .lst (SqL.of hs) (DvAll.dp ds _ ha (by simpa [PyData.canLay0] using c))
 |.tuple ds,_,h,c=>by
  cases h with
  |tup hs ha=>exact .tup hs (DvAll.dp ds _ ha (by simpa [PyData.canLay0] using c))
 |.dict _,_,h,c=>by simp [PyData.canLay0] at c
theorem DvAll.dp {K:oB} {H:Hp}:∀(ds:List PyData) (vs:List V),DvAll K H vs ds→PyData.canLayAll0 ds=true→DpAll K H vs ds
 |[],_,h,_=>by cases h;exact .nil
 |d::ds,_,h,c=>by
  have c':d.canLay0=true∧PyData.canLayAll0 ds=true:=by simpa [PyData.canLayAll0] using c
  cases h with
  |cons h1 h2=>exact .cons (Dv.dp d _ h1 c'.1) (DvAll.dp ds _ h2 c'.2)
end
mutual
theorem zGJ {K:oB} {H H':Hp} (e:Same H H'):∀{v:V} {d:PyData},Dv K H v d→Dv K H' v d
 |_,_,.non=>.non
 |_,_,.bl b=>.bl b
 |_,_,.int i=>.int i
 |_,_,.str x=>.str x
 |_,_,.lst h q=>.lst (e _ _ h) (dvAll_mono' e q)
 |_,_,.tup h q=>.tup (zAV e h) (dvAll_mono' e q)
 |_,_,.dct h q=>.dct (zJa e h) (dvKv_mono e q)
theorem dvAll_mono' {K:oB} {H H':Hp} (e:Same H H'):∀{vs:List V} {ds:List PyData},DvAll K H vs ds→DvAll K H' vs ds
 |_,_,.nil=>.nil
 |_,_,.cons h1 h2=>.cons (zGJ e h1) (dvAll_mono' e h2)
theorem dvKv_mono {K:oB} {H H':Hp} (e:Same H H'):∀{vs:List (Key×V)} {ds:List (PyData×PyData)},DvKv K H vs ds→DvKv K H' vs ds
 |_,_,.nil=>.nil
 |_,_,.cons h1 h2=>.cons (zGJ e h1) (dvKv_mono e h2)
end
theorem zAG {K:oB} {H H':Hp} (e:Same H H') (d:PyData) (v:V) (h:Dv K H v d):Dv K H' v d:=zGJ e h
theorem zB5 {K:oB} {H H':Hp} (e:Same H H') (ds:List PyData) (vs:List V) (h:DvAll K H vs ds):DvAll K H' vs ds:=dvAll_mono' e h
theorem DvAll.len {K:oB} {H:Hp}:∀{vs:List V} {ds:List PyData},DvAll K H vs ds→vs.length=ds.length
 |_,_,.nil=>rfl
 |_,_,.cons _ h=>by
  have:=DvAll.len h
  simp [this]
theorem DvAll.get {K:oB} {H:Hp}:∀{vs:List V} {ds:List PyData},DvAll K H vs ds→∀(i:Nat) (d:PyData),ds[i]?=some d→∃v,vs[i]?=some v∧Dv K H v d
 |_,_,.nil,i,d,h=>by simp at h
 |_,_,.cons h1 h2,0,d,h=>by
  simp at h
  subst h;exact ⟨_,rfl,h1⟩
 |_,_,.cons h1 h2,i+1,d,h=>by
  obtain ⟨v,e,q⟩:=DvAll.get h2 i d (by simpa using h)
  exact ⟨v,by simpa using e,q⟩
theorem DvAll.append {K:oB} {H:Hp}:∀{vs ws:List V} {ds es:List PyData},DvAll K H vs ds→DvAll K H ws es→DvAll K H (vs++ws) (ds++es)
 |_,_,_,_,.nil,h=>h
 |_,_,_,_,.cons h1 h2,h=>.cons h1 (DvAll.append h2 h)
theorem DvAll.set {K:oB} {H:Hp} {v:V} {d:PyData} (q:Dv K H v d):∀{vs:List V} {ds:List PyData} (i:Nat),DvAll K H vs ds→DvAll K H (vs.set i v) (ds.set i d)
 |_,_,_,.nil=>.nil
 |_,_,0,.cons _ h2=>.cons q h2
 |_,_,i+1,.cons h1 h2=>.cons h1 (DvAll.set q i h2)
theorem DvAll.take {K:oB} {H:Hp}:∀{vs:List V} {ds:List PyData} (n:Nat),DvAll K H vs ds→DvAll K H (vs.take n) (ds.take n)
 |_,_,0,_=>.nil
 |_,_,_+1,.nil=>.nil
 |_,_,n+1,.cons h1 h2=>.cons h1 (DvAll.take n h2)
theorem DvAll.drop {K:oB} {H:Hp}:∀{vs:List V} {ds:List PyData} (n:Nat),DvAll K H vs ds→DvAll K H (vs.drop n) (ds.drop n)
 |_,_,0,h=>h
 |_,_,_+1,.nil=>.nil
 |_,_,n+1,.cons h1 h2=>DvAll.drop n h2
theorem DvAll.rev {K:oB} {H:Hp}:∀{vs:List V} {ds:List PyData},DvAll K H vs ds→DvAll K H vs.reverse ds.reverse
 |_,_,.nil=>.nil
 |_,_,.cons h1 h2=>by
  rw [List.reverse_cons,List.reverse_cons];exact DvAll.append (DvAll.rev h2) (.cons h1 .nil)
structure Kn where
 k:Hp
 P:Nat→Option Addr
instance:CoeFun Kn (fun _=>Addr→Option HO):=⟨Kn.k⟩
instance:Coe Kn Hp:=⟨Kn.k⟩
def Kn.upd (Hk:Kn) (p:Addr) (o:HO):Kn:=⟨L2.upd Hk.k p o,Hk.P⟩
structure KSame (a b:Kn):Prop where
 s:Same a.k b.k
 p:∀n x,a.P n=some x→b.P n=some x
theorem KSame.refl (a:Kn):KSame a a:=⟨Same.refl _,fun _ _ h=>h⟩
theorem KSame.trans {a b c:Kn} (h:KSame a b) (g:KSame b c):KSame a c:=⟨h.s.trans g.s,fun n x q=>g.p n x (h.p n x q)⟩
theorem KSame.seq {a b:Kn} (h:KSame a b) {K:oB} {l:Addr} {xs:List V} (q:SqL K a l xs):SqL K b l xs:=h.s.seq q
theorem KSame.free {a b:Kn} (h:KSame a b) {p:Addr} (q:b p=none):a p=none:=h.s.free q
instance {a b:Kn}:Coe (KSame a b) (Same a.k b.k):=⟨KSame.s⟩
inductive PV where
 |dat (d:PyData)
 |ref (n:Nat)
 |tup (ps:List PV)
inductive MC where
 |lst (ps:List PV)
 |dct (es:List (PyData×PV))
 |ins (C:Str) (fs:List (Str×PV))
 |kn (c:MC)
 |lk (es:List (PyData×PyData))
 |tab (x:Str)
def MC.live:MC→Prop
 |.kn _=>False
 |.lk _=>False
 |_=>True
def TupZ (Hk:Hp) (a:Addr) (vs:List V):Prop:=∃o:Obj,Hk a=some (.frz o (.tup vs))∧o.cls=.type "tuple"∧o.dict=none
theorem TupZ.sq {K:oB} {Hk:Hp} {a:Addr} {vs:List V} (h:TupZ Hk a vs):SqT K Hk a vs:=.inl (.inr ⟨h.choose,h.choose_spec.1⟩)
theorem TupZ.mono {Hk Hk':Hp} {a:Addr} {vs:List V} (e:Same Hk Hk') (h:TupZ Hk a vs):TupZ Hk' a vs:=let ⟨o,h1,h2⟩:=h;⟨o,e _ _ h1,h2⟩
mutual
inductive PvOk (K:oB) (Hk:Kn):V→PV→Prop
 |dat {v:V} {d:PyData}:Dv K Hk v d→PvOk K Hk v (.dat d)
 |ref {a:Addr} {n:Nat}:Hk.P n=some a→PvOk K Hk (.ref a) (.ref n)
 |tup {a:Addr} {vs:List V} {ps:List PV}:TupZ Hk.k a vs→PvAll K Hk vs ps→PvOk K Hk (.ref a) (.tup ps)
inductive PvAll (K:oB) (Hk:Kn):List V→List PV→Prop
 |nil:PvAll K Hk [] []
 |cons {v:V} {vs:List V} {p:PV} {ps:List PV}:PvOk K Hk v p→PvAll K Hk vs ps→PvAll K Hk (v::vs) (p::ps)
end
mutual
theorem PvOk.mono {K:oB} {Hk Hk':Kn} (e:KSame Hk Hk'):∀{v:V} {p:PV},PvOk K Hk v p→PvOk K Hk' v p
 |_,_,.dat h=>.dat (zAG e.s _ _ h)
 |_,_,.ref h=>.ref (e.p _ _ h)
 |_,_,.tup h q=>.tup (h.mono e.s) (PvAll.mono e q)
theorem PvAll.mono {K:oB} {Hk Hk':Kn} (e:KSame Hk Hk'):∀{vs:List V} {ps:List PV},PvAll K Hk vs ps→PvAll K Hk' vs ps
 |_,_,.nil=>.nil
 |_,_,.cons h1 h2=>.cons (h1.mono e) (PvAll.mono e h2)
end
inductive PvKv (K:oB) (Hk:Kn):List (Key×V)→List (PyData×PV)→Prop
 |nil:PvKv K Hk [] []
 |cons {k:Key} {v:V} {kvs:List (Key×V)} {p:PV} {es:List (PyData×PV)}:PvOk K Hk v p→PvKv K Hk kvs es→PvKv K Hk ((k,v)::kvs) ((keyD k,p)::es)
inductive PvFs (K:oB) (Hk:Kn):List (Str×V)→List (Str×PV)→Prop
 |nil:PvFs K Hk [] []
 |cons {k:Str} {v:V} {kvs:List (Str×V)} {p:PV} {es:List (Str×PV)}:PvOk K Hk v p→PvFs K Hk kvs es→PvFs K Hk ((k,v)::kvs) ((k,p)::es)
theorem PvKv.mono {K:oB} {Hk Hk':Kn} (e:KSame Hk Hk'):∀{vs:List (Key×V)} {ps:List (PyData×PV)},PvKv K Hk vs ps→PvKv K Hk' vs ps
 |_,_,.nil=>.nil
 |_,_,.cons h1 h2=>.cons (h1.mono e) (PvKv.mono e h2)
theorem PvFs.mono {K:oB} {Hk Hk':Kn} (e:KSame Hk Hk'):∀{vs:List (Str×V)} {ps:List (Str×PV)},PvFs K Hk vs ps→PvFs K Hk' vs ps
 |_,_,.nil=>.nil
 |_,_,.cons h1 h2=>.cons (h1.mono e) (PvFs.mono e h2)
def zNy (K:oB) (x:Str) (a:Addr):Prop:=∃(oc:Value) (od:Option Addr) (fd:FuncData) (osl:Array (Option Value)) (c:Addr) (ec:Value) (ed:Option Addr) (vs:Array Value) (esl:Array (Option Value)),
 K.lookup (He.ga K x)=some ⟨oc,od,.func fd,osl⟩∧fd.code=.ref c∧K.lookup c=some ⟨ec,ed,.fields vs,esl⟩∧vs[11]?=some (.ref a)
def lamQ (x:Str):Str:=(x++(".<locals>.":Str))++("<lambda>":Str)
def CellM (K:oB) (Hk:Kn) (H:Hp) (a:Addr):MC→Prop
 |.lst ps=>∃vs,H a=some (.lst vs)∧PvAll K Hk vs ps
 |.dct es=>∃kvs,H a=some (.dK kvs)∧PvKv K Hk kvs es
 |.ins C fs=>∃dx vs,H a=some (.ins (He.ga K C) dx vs)∧H dx=some (.own a)∧PvFs K Hk vs fs
 |.kn c=>CellM K Hk Hk.k a c
 |.lk es=>∃od kvs,Hk a=some (.frz od (.dK kvs))∧DvKv K Hk kvs es
 |.tab x=>zNy K x a∧∃ps:Array Value,H a=some (.tbl ps)∧TriplesOk ps.toList∧∀(pos:Pos) (cv:Value),codeAmong pos ps.toList=some cv→∃c,cv=.ref c∧Hk.k c=some (LamX.CodeO c (lamQ x))
theorem CellM.mono {K:oB} {Hk Hk':Kn} {H H':Hp} {a:Addr} {c:MC} (h:CellM K Hk H a c) (e:KSame Hk Hk') (k:∀o,H a=some o→H' a=some o) (kd:∀dx,H dx=some (.own a)→H' dx=some (.own a)):CellM K Hk' H' a c:=by
 cases c with
 |lst ps=>
  obtain ⟨vs,h1,h2⟩:=h
  exact ⟨vs,k _ h1,h2.mono e⟩
 |dct es=>
  obtain ⟨vs,h1,h2⟩:=h
  exact ⟨vs,k _ h1,h2.mono e⟩
 |ins C fs=>
  obtain ⟨dx,vs,h1,h2,h3⟩:=h
  exact ⟨dx,vs,k _ h1,kd _ h2,h3.mono e⟩
 |kn c=>exact CellM.mono (c:=c) h e (fun o q=>e.s _ _ q) fun dx q=>e.s _ _ q
 |lk es=>
  obtain ⟨od,kvs,h1,h2⟩:=h
  exact ⟨od,kvs,e.s _ _ h1,dvKv_mono e.s h2⟩
 |tab x=>
  obtain ⟨h0,ps,h1,h2,h3⟩:=h
  refine ⟨h0,ps,k _ h1,h2,fun pos cv q=>?_⟩
  obtain ⟨c,e1,e2⟩:=h3 pos cv q
  exact ⟨c,e1,e.s _ _ e2⟩
theorem CellM.there {K:oB} {Hk:Kn} {H:Hp} {a:Addr} {c:MC} (h:CellM K Hk H a c) (l:c.live):∃o,H a=some o∧∀x,o≠.own x:=by
 cases c with
 |lst ps=>
  obtain ⟨vs,h1,h2⟩:=h
  exact ⟨_,h1,fun x z=>by cases z⟩
 |dct es=>
  obtain ⟨vs,h1,h2⟩:=h
  exact ⟨_,h1,fun x z=>by cases z⟩
 |ins C fs=>
  obtain ⟨dx,vs,h1,h2,h3⟩:=h
  exact ⟨_,h1,fun x z=>by cases z⟩
 |kn c=>cases l
 |lk es=>cases l
 |tab x=>
  obtain ⟨_,ps,h1,_⟩:=h
  exact ⟨_,h1,fun x z=>by cases z⟩
inductive Cell where
 |lst (ds:List PyData)
 |dct (es:List (PyData×PyData))
def Cell.dat:Cell→PyData
 |.lst ds=>.list ds
 |.dct es=>.dict es
inductive Slot where
 |no
 |val (d:PyData)
 |own (c:Cell)
 |io (k:Nat) (c:Cell)
 |scr (ns:List Int)
 |pin (k:Nat)
 |pv (p:PV)
 |sto (M:List MC)
abbrev Sl:=List Slot
inductive Res where
 |dat (d:PyData)
 |new (c:Cell)
 |slt (i:Nat)
 |pv (p:PV)
def Slot.mut:Slot→Prop
 |.own _=>True
 |.io _ _=>True
 |_=>False
def CellAt (K:oB) (Hk H:Hp) (a:Addr):Cell→Prop
 |.lst ds=>∃vs,H a=some (.lst vs)∧DvAll K Hk vs ds
 |.dct es=>∃kvs,H a=some (.dK kvs)∧DvKv K Hk kvs es
theorem CellAt.obj {K:oB} {Hk H:Hp} {a:Addr} {c:Cell} (h:CellAt K Hk H a c):∃o,H a=some o∧∀Hk':Hp,Same Hk Hk'→Hk' a=some o→Dv K Hk' (.ref a) c.dat:=by
 cases c with
 |lst ds=>
  obtain ⟨vs,h1,h2⟩:=h
  exact ⟨_,h1,fun Hk' e q=>.lst q (zB5 e _ _ h2)⟩
 |dct es=>
  obtain ⟨vs,h1,h2⟩:=h
  exact ⟨_,h1,fun Hk' e q=>.dct (.inl q) (dvKv_mono e h2)⟩
theorem CellAt.mono {K:oB} {Hk Hk' H H':Hp} {a:Addr} {c:Cell} (h:CellAt K Hk H a c) (e:Same Hk Hk') (k:∀o,H a=some o→H' a=some o):CellAt K Hk' H' a c:=by
 cases c with
 |lst ds=>
  obtain ⟨vs,h1,h2⟩:=h
  exact ⟨vs,k _ h1,zB5 e _ _ h2⟩
 |dct es=>
  obtain ⟨vs,h1,h2⟩:=h
  exact ⟨vs,k _ h1,dvKv_mono e h2⟩
theorem CellAt.there {K:oB} {Hk H:Hp} {a:Addr} {c:Cell} (h:CellAt K Hk H a c):∃o,H a=some o:=by
 cases c with
 |lst ds=>
  obtain ⟨vs,h1,h2⟩:=h
  exact ⟨_,h1⟩
 |dct es=>
  obtain ⟨vs,h1,h2⟩:=h
  exact ⟨_,h1⟩
structure Fb where
 K0:Kn
 H0:Hp
 A:Nat→Option Addr
 P:Nat→Option Addr
 S:Addr→Prop:=fun _=>False
def Fb.io (B:Fb) (a:Addr):Prop:=(∃k,B.A k=some a)∨B.S a
def zJX (K:oB) (B:Fb) (Hk:Kn) (H:Hp) (s:Slot) (o:Option V):Prop:=match s with
 |.no=>True
 |.val d=>∃v,o=some v∧Dv K Hk v d
 |.own c=>∃a,o=some (.ref a)∧Hk a=none∧B.H0 a=none∧CellAt K Hk H a c
 |.io k c=>∃a,o=some (.ref a)∧Hk a=none∧B.A k=some a∧CellAt K Hk H a c
 |.scr ns=>∃a,o=some (.ref a)∧SqL K Hk a (ns.map V.int)
 |.pin k=>∃a,o=some (.ref a)∧B.P k=some a
 |.pv p=>∃v,o=some v∧PvOk K Hk v p
 |.sto _=>True
structure StoOk (K:oB) (B:Fb) (Hk:Kn) (H:Hp) (M:List MC):Prop where
 cel:∀(n:Nat) c,M[n]?=some c→∃a,Hk.P n=some a∧CellM K Hk H a c∧(c.live→Hk a=none)
 inj:∀(n m:Nat) a,Hk.P n=some a→Hk.P m=some a→n=m
 top:∀(n:Nat),M.length≤n→Hk.P n=none
def HasSto (env:Sl) (M:List MC):Prop:=env[env.length - 1]?=some (.sto M)
structure Rel (K:oB) (B:Fb) (env:Sl) (σ:St) (Hk:Kn) (H:Hp):Prop where
 ex:Same Hk H
 kn:KSame B.K0 Hk
 fr:∀a,Hk a≠none→B.K0 a=none→B.H0 a=none
 kp:∀a o,B.H0 a=some o→¬B.io a→H a=some o
 oin:∀a,B.io a→H a≠none∧Hk a=none
 o0:∀a,B.io a→B.H0 a≠none
 len:env.length=σ.length
 slot:∀(i:Nat) s,env[i]?=some s→∃o,σ[i]?=some o∧zJX K B Hk H s o
 sep:∀(i j:Nat) s t a,env[i]?=some s→env[j]?=some t→s.mut→t.mut→σ[i]?=some (some (V.ref a))→σ[j]?=some (some (V.ref a))→i=j
 sok:∀M,HasSto env M→StoOk K B Hk H M
 pin:∀(n:Nat) a,Hk.P n=some a→H a≠none∧(Hk a=none→B.H0 a=none∨B.io a)
 psep:∀(i:Nat) s a (n:Nat),env[i]?=some s→s.mut→σ[i]?=some (some (V.ref a))→Hk.P n≠some a
def zCG (K:oB) (B:Fb) (env:Sl) (σ:St) (Hk:Kn) (H:Hp) (r:Res) (v:V):Prop:=match r with
 |.dat d=>Dv K Hk v d
 |.new c=>∃a,v=.ref a∧Hk a=none∧B.H0 a=none∧CellAt K Hk H a c∧(∀(n:Nat),Hk.P n≠some a)∧∀(j:Nat) s,env[j]?=some s→s.mut→σ[j]?≠some (some (V.ref a))
 |.slt i=>σ[i]?=some (some v)
 |.pv p=>PvOk K Hk v p
section
variable {K:oB} {B:Fb} {env:Sl} {σ:St} {Hk Hk':Kn} {H H':Hp}
theorem zAO {H:Hp} {a:Addr} {o:HO} (h:H a=some o):H a≠none:=by rw [h];exact fun z=>nomatch z
theorem CellM.known {K:oB} {Hk:Kn}:∀{c:MC} {H:Hp} {a:Addr},CellM K Hk H a c→¬c.live→Hk a≠none
 |.lst _,_,_,_,n=>absurd trivial n
 |.dct _,_,_,_,n=>absurd trivial n
 |.ins _ _,_,_,_,n=>absurd trivial n
 |.tab _,_,_,_,n=>absurd trivial n
 |.lk _,_,_,⟨_,_,h,_⟩,_=>zAO h
 |.kn (.lst _),_,_,⟨_,h,_⟩,_=>zAO h
 |.kn (.dct _),_,_,⟨_,h,_⟩,_=>zAO h
 |.kn (.ins _ _),_,_,⟨_,_,h,_⟩,_=>zAO h
 |.kn (.lk _),_,_,⟨_,_,h,_⟩,_=>zAO h
 |.kn (.tab _),_,_,⟨_,_,h,_⟩,_=>zAO h
 |.kn (.kn c),_,a,h,_=>CellM.known (c:=.kn c) (H:=Hk.k) (a:=a) h fun z=>z
theorem StoOk.mono {M:List MC} (S:StoOk K B Hk H M) (e:Same Hk Hk') (hP:Hk'.P=Hk.P) (u:∀n a,Hk.P n=some a→Hk a=none→Hk' a=none) (k:∀a o,(∃n,Hk.P n=some a)→H a=some o→H' a=some o) (kd:∀dx a,H dx=some (.own a)→H' dx=some (.own a)):StoOk K B Hk' H' M where
 cel:=fun n c h=>by
  obtain ⟨a,h1,h2,h3⟩:=S.cel n c h
  refine ⟨a,by rw [hP];exact h1,h2.mono ⟨e,fun n x q=>by rw [hP];exact q⟩ (fun o=>k a o ⟨n,h1⟩) (fun dx=>kd dx a),fun l=>u n a h1 (h3 l)⟩
 inj:=fun n m a h1 h2=>S.inj n m a (by rw [←hP];exact h1) (by rw [←hP];exact h2)
 top:=fun n h=>by rw [hP];exact S.top n h
theorem zDu {i:Nat} {s:Slot} {M:List MC} (h:HasSto (env.set i s) M) (hs:∀M,s≠.sto M):HasSto env M:=by
 unfold HasSto at*
 rw [oK] at h
 by_cases e:i=env.length - 1
 ·subst e
  by_cases hl:env.length - 1<env.length
  ·rw [oM hl] at h
   exact absurd (oG h) (hs M)
  ·rw [List.getElem?_eq_none (by rw [oK];omega)] at h
   cases h
 ·rw [oH e] at h
  exact h
theorem Rel.grow (R:Rel K B env σ Hk H) (e:Same Hk Hk') (e':Same Hk' H') (s:Same H H') (f:∀a,Hk' a≠none→Hk a=none→H a=none) (hP:Hk'.P=Hk.P:=by rfl):Rel K B env σ Hk' H' where
 ex:=e'
 kn:=R.kn.trans ⟨e,fun n x q=>by rw [hP];exact q⟩
 fr:=fun a h1 h2=>by
  by_cases q:Hk a=none
  ·have hn:=f a h1 q
   cases hb:B.H0 a with
   |none=>rfl
   |some o=>
    by_cases ho:B.io a
    ·exact absurd hn (R.oin a ho).1
    ·rw [R.kp a o hb ho] at hn
     cases hn
  ·exact R.fr a q h2
 kp:=fun a o h1 h2=>s a o (R.kp a o h1 h2)
 oin:=fun a h=>by
  obtain ⟨h1,h2⟩:=R.oin a h
  obtain ⟨o,ho⟩:=Option.ne_none_iff_exists'.mp h1
  refine ⟨zAO (s a o ho),?_⟩
  cases q:Hk' a with
  |none=>rfl
  |some u=>exact absurd (f a (zAO q) h2) h1
 o0:=R.o0
 len:=R.len
 slot:=fun i t h=>by
  obtain ⟨o,h1,h2⟩:=R.slot i t h
  refine ⟨o,h1,?_⟩
  have fresh:∀a c,Hk a=none→CellAt K Hk H a c→Hk' a=none:=fun a c z w=>by
   obtain ⟨u,hu⟩:=w.there
   cases q:Hk' a with
   |none=>rfl
   |some x=>exact absurd (f a (zAO q) z) (zAO hu)
  cases t with
  |no=>trivial
  |sto M=>trivial
  |val d=>
   obtain ⟨v,e1,q⟩:=h2
   exact ⟨v,e1,zAG e d v q⟩
  |scr ns=>
   obtain ⟨a,e1,q⟩:=h2
   exact ⟨a,e1,e.seq q⟩
  |pin a=>exact h2
  |pv p=>
   obtain ⟨v,e1,q⟩:=h2
   exact ⟨v,e1,q.mono ⟨e,fun n x q=>by rw [hP];exact q⟩⟩
  |own c=>
   obtain ⟨a,e1,q1,q2,q3⟩:=h2
   exact ⟨a,e1,fresh a c q1 q3,q2,q3.mono e fun o=>s a o⟩
  |io k c=>
   obtain ⟨a,e1,q1,q2,q3⟩:=h2
   exact ⟨a,e1,fresh a c q1 q3,q2,q3.mono e fun o=>s a o⟩
 sep:=R.sep
 sok:=fun M h=>(R.sok M h).mono e hP (fun n a h1 h2=>by
  cases q:Hk' a with
  |none=>rfl
  |some x=>exact absurd (f a (zAO q) h2) (R.pin n a h1).1) (fun a o _=>s a o) fun dx a=>s dx _
 pin:=fun n a h=>by
  obtain ⟨h1,h2⟩:=R.pin n a (by rw [←hP];exact h)
  obtain ⟨o,ho⟩:=Option.ne_none_iff_exists'.mp h1
  exact ⟨zAO (s a o ho),fun z=>h2 (e.free z)⟩
 psep:=fun i t a n h1 h2 h3=>by rw [hP];exact R.psep i t a n h1 h2 h3
theorem Rel.fresh0 (R:Rel K B env σ Hk H) {p:Addr} (h:H p=none):B.H0 p=none:=by
 cases hb:B.H0 p with
 |none=>rfl
 |some o=>
  by_cases ho:B.io p
  ·exact absurd h (R.oin p ho).1
  ·rw [R.kp p o hb ho] at h
   cases h
theorem zBm {H:Hp} {p:Addr} {o:HO} (h:H p=none):Same H (upd H p o):=fun b x e=>by
 rw [upd_ne (ne_of_none e h)];exact e
theorem zCg {Hk:Kn} {p:Addr} {o:HO} (h:Hk p=none):KSame Hk (Hk.upd p o):=⟨zBm h,fun _ _ q=>q⟩
theorem Rel.kfree (R:Rel K B env σ Hk H) {p:Addr} (h:H p=none):Hk p=none:=R.ex.free h
theorem Rel.pfree (R:Rel K B env σ Hk H) {p:Addr} (h:H p=none) (n:Nat):Hk.P n≠some p:=fun e=>(R.pin n p e).1 h
theorem Rel.laid (R:Rel K B env σ Hk H) {p:Addr} {o:HO} (h:H p=none):Rel K B env σ Hk (upd H p o):=
 R.grow (Same.refl _) (R.ex.trans (zBm h)) (zBm h) fun a h1 h2=>absurd h2 h1
theorem zI1 {H:Hp} {p a:Addr} {o:HO} (h:upd H p o a≠none) (h2:H a=none):a=p:=by
 by_cases e:a=p
 ·exact e
 ·rw [upd_ne e] at h
  exact absurd h2 h
theorem Rel.laidK (R:Rel K B env σ Hk H) {p:Addr} {o:HO} (h:H p=none):Rel K B env σ (Hk.upd p o) (upd H p o):=
 R.grow (Hk':=Hk.upd p o) (zBm (R.kfree h)) (fun b x e=>by
  have e:upd Hk.k p o b=some x:=e
  by_cases hb:b=p
  ·subst hb
   rw [upd_same] at e ⊢
   exact e
  ·rw [upd_ne hb] at e ⊢
   exact R.ex _ _ e) (zBm h) fun a h1 h2=>by
  rw [zI1 (H:=Hk.k) h1 h2];exact h
theorem Rel.mutNe (R:Rel K B env σ Hk H) {p:Addr} (h:H p=none) {j:Nat} {s:Slot} (hs:env[j]?=some s) (hm:s.mut):σ[j]?≠some (some (V.ref p)):=fun e=>by
 obtain ⟨o,h1,h2⟩:=R.slot j s hs
 rw [e] at h1
 cases h1
 cases s with
 |own c=>
  obtain ⟨a,e1,q1,q2,q3⟩:=h2
  obtain ⟨u,hu⟩:=q3.there
  cases e1
  rw [h] at hu
  cases hu
 |io k c=>
  obtain ⟨a,e1,q1,q2,q3⟩:=h2
  obtain ⟨u,hu⟩:=q3.there
  cases e1
  rw [h] at hu
  cases hu
 |_=>cases hm
def Out (K:oB) (Hk H:Hp) (r:Res) (v:V) (H':Hp):Prop:=match r with
 |.dat d=>(H'=H∧Dv K Hk v d)∨∃p vs ds,d=.tuple ds∧v=.ref p∧H p=none∧H'=upd H p (.tup vs)∧DvAll K Hk vs ds
 |.new (.lst ds)=>∃p vs,v=.ref p∧H p=none∧H'=upd H p (.lst vs)∧DvAll K Hk vs ds
 |.new (.dct es)=>∃p kvs,v=.ref p∧H p=none∧H'=upd H p (.dK kvs)∧DvKv K Hk kvs es
 |_=>False
theorem Rel.out (R:Rel K B env σ Hk H) {r:Res} {v:V} (o:Out K Hk H r v H'):∃Hk':Kn,Rel K B env σ Hk' H'∧KSame Hk Hk'∧zCG K B env σ Hk' H' r v:=by
 cases r with
 |dat d=>
  rcases o with ⟨rfl,q⟩|⟨p,vs,ds,rfl,rfl,hp,rfl,q⟩
  ·exact ⟨Hk,R,KSame.refl _,q⟩
  ·refine ⟨Hk.upd p (.tup vs),R.laidK hp,zCg (R.kfree hp),?_⟩
   exact .tup (SqT.of (show upd Hk.k p _ p=_ from upd_same)) (zB5 (zBm (R.kfree hp)) _ _ q)
 |new c=>
  cases c with
  |lst ds=>
   obtain ⟨p,vs,rfl,hp,rfl,q⟩:=o
   exact ⟨Hk,R.laid hp,KSame.refl _,p,rfl,R.kfree hp,R.fresh0 hp,⟨vs,upd_same,q⟩,R.pfree hp,fun j s h1 h2=>R.mutNe hp h1 h2⟩
  |dct es=>
   obtain ⟨p,vs,rfl,hp,rfl,q⟩:=o
   exact ⟨Hk,R.laid hp,KSame.refl _,p,rfl,R.kfree hp,R.fresh0 hp,⟨vs,upd_same,q⟩,R.pfree hp,fun j s h1 h2=>R.mutNe hp h1 h2⟩
 |slt i=>exact False.elim o
 |pv p=>exact False.elim o
theorem Rel.know (R:Rel K B env σ Hk H) {p:Addr} {ob:HO} (h:H p=some ob) (hk:Hk p=none) (h0:B.H0 p=none) (hP:∀(n:Nat),Hk.P n≠some p)
  (hn:∀(j:Nat) s,env[j]?=some s→s.mut→σ[j]?≠some (some (V.ref p))):Rel K B env σ (Hk.upd p ob) H where
 ex:=fun b x e=>by
  have e:upd Hk.k p ob b=some x:=e
  by_cases hb:b=p
  ·subst hb
   rw [upd_same] at e
   cases e
   exact h
  ·rw [upd_ne hb] at e
   exact R.ex _ _ e
 kn:=R.kn.trans (zCg hk)
 fr:=fun a h1 h2=>by
  by_cases hb:a=p
  ·rw [hb]
   exact h0
  ·have h1:upd Hk.k p ob a≠none:=h1
   rw [upd_ne hb] at h1
   exact R.fr a h1 h2
 kp:=R.kp
 oin:=fun a ha=>by
  refine ⟨(R.oin a ha).1,?_⟩
  have ne:a≠p:=fun e=>R.o0 a ha (by rw [e];exact h0)
  show upd Hk.k p ob a=none
  rw [upd_ne ne];exact (R.oin a ha).2
 o0:=R.o0
 len:=R.len
 slot:=fun i t hi=>by
  obtain ⟨o,h1,h2⟩:=R.slot i t hi
  refine ⟨o,h1,?_⟩
  have sm:Same Hk.k (upd Hk.k p ob):=zBm hk
  cases t with
  |no=>trivial
  |sto M=>trivial
  |val d=>
   obtain ⟨v,e1,q⟩:=h2
   exact ⟨v,e1,zAG sm d v q⟩
  |scr ns=>
   obtain ⟨a,e1,q⟩:=h2
   exact ⟨a,e1,sm.seq q⟩
  |pin a=>exact h2
  |pv p=>
   obtain ⟨v,e1,q⟩:=h2
   exact ⟨v,e1,q.mono (zCg hk)⟩
  |own c=>
   obtain ⟨a,e1,q1,q2,q3⟩:=h2
   have ne:a≠p:=fun z=>by
    subst e1 z;exact hn i _ hi trivial h1
   exact ⟨a,e1,by show upd Hk.k p ob a=none;rw [upd_ne ne];exact q1,q2,q3.mono sm fun o z=>z⟩
  |io k c=>
   obtain ⟨a,e1,q1,q2,q3⟩:=h2
   have ne:a≠p:=fun z=>by
    subst e1 z;exact hn i _ hi trivial h1
   exact ⟨a,e1,by show upd Hk.k p ob a=none;rw [upd_ne ne];exact q1,q2,q3.mono sm fun o z=>z⟩
 sep:=R.sep
 sok:=fun M h=>(R.sok M h).mono (zBm hk) rfl (fun n a h1 h2=>by
  have ne:a≠p:=fun z=>hP n (z ▸ h1)
  show upd Hk.k p ob a=none
  rw [upd_ne ne];exact h2) (fun _ _ _ z=>z) fun _ _ z=>z
 pin:=fun n a h=>by
  refine ⟨(R.pin n a h).1,fun z=>(R.pin n a h).2 ?_⟩
  have z:upd Hk.k p ob a=none:=z
  have ne:a≠p:=fun e=>by rw [e,upd_same] at z;cases z
  rw [upd_ne ne] at z
  exact z
 psep:=R.psep
theorem zAv {α:Type} {l:List α} {i j:Nat} {x y:α} (h:(l.set i x)[j]?=some y):(j=i∧y=x)∨(j≠i∧l[j]?=some y):=by
 by_cases e:i=j
 ·subst e
  by_cases hl:i<l.length
  ·rw [oM hl] at h
   exact .inl ⟨rfl,(oG h).symm⟩
  ·rw [List.getElem?_eq_none (by rw [oK];omega)] at h
   cases h
 ·rw [oH e] at h
  exact .inr ⟨fun z=>e z.symm,h⟩
theorem Rel.less (R:Rel K B env σ Hk H) {i:Nat} {s:Slot} (ns:¬s.mut) (hs:∀M,s≠.sto M) (h:∀o,σ[i]?=some o→zJX K B Hk H s o):Rel K B (env.set i s) σ Hk H where
 ex:=R.ex
 kn:=R.kn
 fr:=R.fr
 kp:=R.kp
 oin:=R.oin
 o0:=R.o0
 len:=by rw [oK];exact R.len
 slot:=fun j t hj=>by
  rcases zAv hj with ⟨rfl,rfl⟩|⟨hne,hj'⟩
  ·have hl:j<σ.length:=by
    have:=(oE.mp hj).1
    rw [oK] at this
    rw [←R.len];exact this
   exact ⟨_,oF hl,h _ (oF hl)⟩
  ·exact R.slot j t hj'
 sep:=fun j k s t b hj hk ms mt g1 g2=>by
  rcases zAv hj with ⟨rfl,rfl⟩|⟨_,hj⟩
  ·exact absurd ms ns
  ·rcases zAv hk with ⟨rfl,rfl⟩|⟨_,hk⟩
   ·exact absurd mt ns
   ·exact R.sep j k s t b hj hk ms mt g1 g2
 sok:=fun M h=>R.sok M (zDu h hs)
 pin:=R.pin
 psep:=fun j s a n hj ms g=>by
  rcases zAv hj with ⟨rfl,rfl⟩|⟨_,hj⟩
  ·exact absurd ms ns
  ·exact R.psep j s a n hj ms g
theorem Rel.freezeC (R:Rel K B env σ Hk H) {i:Nat} {c:Cell} (h:env[i]?=some (.own c)):
  ∃a,∃Hk':Kn,σ[i]?=some (some (V.ref a))∧Rel K B (env.set i (.val c.dat)) σ Hk' H∧KSame Hk Hk'∧Dv K Hk' (.ref a) c.dat:=by
 obtain ⟨o,h1,a,rfl,q1,q2,qc⟩:=R.slot i _ h
 obtain ⟨ob,q3,q4⟩:=qc.obj
 have sm:KSame Hk (Hk.upd a ob):=zCg q1
 have dp:Dv K (Hk.upd a ob) (.ref a) c.dat:=q4 _ sm.s upd_same
 have R1:Rel K B (env.set i .no) σ Hk H:=R.less (fun z=>z) (fun M z=>by cases z) fun o _=>trivial
 have R2:=R1.know q3 q1 q2 (fun n=>R.psep i _ a n h trivial h1) fun j s hj hm e=>by
  rcases zAv hj with ⟨rfl,rfl⟩|⟨ne,hj⟩
  ·cases hm
  ·exact ne (R.sep j i s _ a hj h hm trivial e h1)
 have R3:=R2.less (i:=i) (s:=.val c.dat) (fun z=>z) (fun M z=>by cases z) fun o ho=>by
  rw [h1] at ho
  cases ho
  exact ⟨_,rfl,dp⟩
 rw [List.set_set] at R3
 exact ⟨a,_,h1,R3,sm,dp⟩
theorem Rel.setW (R:Rel K B env σ Hk H) {i:Nat} {s:Slot} {o:Option V} (ns:¬s.mut) (hs:∀M,s≠.sto M) (h:zJX K B Hk H s o):Rel K B (env.set i s) (σ.set i o) Hk H where
 ex:=R.ex
 kn:=R.kn
 fr:=R.fr
 kp:=R.kp
 oin:=R.oin
 o0:=R.o0
 len:=by rw [oK,oK];exact R.len
 slot:=fun j t hj=>by
  rcases zAv hj with ⟨rfl,rfl⟩|⟨hne,hj'⟩
  ·have hl:j<σ.length:=by
    have:=(oE.mp hj).1
    rw [oK] at this
    rw [←R.len];exact this
   exact ⟨o,by rw [oM hl],h⟩
  ·obtain ⟨o,g1,g2⟩:=R.slot j t hj'
   exact ⟨o,by rw [oH (fun z=>hne z.symm)];exact g1,g2⟩
 sep:=fun j k s t b hj hk ms mt g1 g2=>by
  rcases zAv hj with ⟨rfl,rfl⟩|⟨n1,hj⟩
  ·exact absurd ms ns
  ·rcases zAv hk with ⟨rfl,rfl⟩|⟨n2,hk⟩
   ·exact absurd mt ns
   ·rw [oH (fun z=>n1 z.symm)] at g1
    rw [oH (fun z=>n2 z.symm)] at g2
    exact R.sep j k s t b hj hk ms mt g1 g2
 sok:=fun M h=>R.sok M (zDu h hs)
 pin:=R.pin
 psep:=fun j s a n hj ms g=>by
  rcases zAv hj with ⟨rfl,rfl⟩|⟨n1,hj⟩
  ·exact absurd ms ns
  ·rw [oH (fun z=>n1 z.symm)] at g
   exact R.psep j s a n hj ms g
theorem Rel.setVal (R:Rel K B env σ Hk H) {i:Nat} {v:V} {d:PyData} (h:Dv K Hk v d):Rel K B (env.set i (.val d)) (σ.set i (some v)) Hk H:=R.setW (fun z=>z) (fun M z=>by cases z) ⟨v,rfl,h⟩
theorem Rel.setPv (R:Rel K B env σ Hk H) {i:Nat} {v:V} {p:PV} (h:PvOk K Hk v p):Rel K B (env.set i (.pv p)) (σ.set i (some v)) Hk H:=R.setW (fun z=>z) (fun M z=>by cases z) ⟨v,rfl,h⟩
theorem Rel.setNo (R:Rel K B env σ Hk H) {i:Nat} {o:Option V}:Rel K B (env.set i .no) (σ.set i o) Hk H:=R.setW (fun z=>z) (fun M z=>by cases z) trivial
theorem Rel.setOwn (R:Rel K B env σ Hk H) {i:Nat} {a:Addr} {c:Cell} (h1:Hk a=none) (h2:B.H0 a=none) (h3:CellAt K Hk H a c) (h5:∀(n:Nat),Hk.P n≠some a) (h4:∀(j:Nat) s,env[j]?=some s→s.mut→σ[j]?≠some (some (V.ref a))):
  Rel K B (env.set i (.own c)) (σ.set i (some (V.ref a))) Hk H where
 ex:=R.ex
 kn:=R.kn
 fr:=R.fr
 kp:=R.kp
 oin:=R.oin
 o0:=R.o0
 len:=by rw [oK,oK];exact R.len
 slot:=fun j t hj=>by
  rcases zAv hj with ⟨rfl,rfl⟩|⟨hne,hj'⟩
  ·have hl:j<σ.length:=by
    have:=(oE.mp hj).1
    rw [oK] at this
    rw [←R.len];exact this
   exact ⟨some (.ref a),by rw [oM hl],a,rfl,h1,h2,h3⟩
  ·obtain ⟨o,g1,g2⟩:=R.slot j t hj'
   exact ⟨o,by rw [oH (fun z=>hne z.symm)];exact g1,g2⟩
 sep:=fun j k s t b hj hk ms mt g1 g2=>by
  rcases zAv hj with ⟨rfl,rfl⟩|⟨n1,hj2⟩
  ·rcases zAv hk with ⟨rfl,rfl⟩|⟨n2,hk⟩
   ·rfl
   ·rw [oH (fun z=>n2 z.symm)] at g2
    rcases zAv g1 with ⟨_,e⟩|⟨z,_⟩
    ·cases e
     exact absurd g2 (h4 k t hk mt)
    ·exact absurd rfl z
  ·rw [oH (fun z=>n1 z.symm)] at g1
   rcases zAv hk with ⟨rfl,rfl⟩|⟨n2,hk⟩
   ·rcases zAv g2 with ⟨_,e⟩|⟨z,_⟩
    ·cases e
     exact absurd g1 (h4 j s hj2 ms)
    ·exact absurd rfl z
   ·rw [oH (fun z=>n2 z.symm)] at g2
    exact R.sep j k s t b hj2 hk ms mt g1 g2
 sok:=fun M h=>R.sok M (zDu h (fun M z=>by cases z))
 pin:=R.pin
 psep:=fun j s b n hj ms g=>by
  rcases zAv hj with ⟨rfl,rfl⟩|⟨n1,hj⟩
  ·rcases zAv g with ⟨_,e⟩|⟨z,_⟩
   ·cases e
    exact h5 n
   ·exact absurd rfl z
  ·rw [oH (fun z=>n1 z.symm)] at g
   exact R.psep j s b n hj ms g
def Slot.put:Slot→Cell→Slot
 |.own _,c=>.own c
 |.io k _,c=>.io k c
 |s,_=>s
theorem Slot.put_sto {s:Slot} {c:Cell} (hm:s.mut):∀M,s.put c≠.sto M:=fun M z=>by
 cases s with
 |own c=>cases z
 |io k c=>cases z
 |_=>cases hm
theorem Rel.change (R:Rel K B env σ Hk H) {i:Nat} {s:Slot} {c':Cell} {a:Addr} {o':HO} (hs:env[i]?=some s) (hm:s.mut) (ha:σ[i]?=some (some (V.ref a))) (h3:CellAt K Hk (upd H a o') a c'):
  Rel K B (env.set i (s.put c')) σ Hk (upd H a o'):=by
 obtain ⟨o,h1,h2⟩:=R.slot i s hs
 rw [ha] at h1
 cases h1
 have hk:Hk a=none:=by
  cases s with
  |own c=>obtain ⟨b,e1,q1,_⟩:=h2;cases e1;exact q1
  |io k c=>obtain ⟨b,e1,q1,_⟩:=h2;cases e1;exact q1
  |_=>cases hm
 have h0:B.H0 a=none∨B.io a:=by
  cases s with
  |own c=>obtain ⟨b,e1,_,q1,_⟩:=h2;cases e1;exact .inl q1
  |io k c=>obtain ⟨b,e1,_,q1,_⟩:=h2;cases e1;exact .inr (.inl ⟨k,q1⟩)
  |_=>cases hm
 have hob:∃u,H a=some u∧∀x,u≠.own x:=by
  have fin:∀c,CellAt K Hk H a c→∃u,H a=some u∧∀x,u≠.own x:=fun c hc=>by
   cases c with
   |lst ds=>
    obtain ⟨vs,g1,_⟩:=hc
    exact ⟨_,g1,fun x z=>by cases z⟩
   |dct ds=>
    obtain ⟨vs,g1,_⟩:=hc
    exact ⟨_,g1,fun x z=>by cases z⟩
  cases s with
  |own c=>obtain ⟨b,e1,_,_,q⟩:=h2;cases e1;exact fin c q
  |io k c=>obtain ⟨b,e1,_,_,q⟩:=h2;cases e1;exact fin c q
  |_=>cases hm
 refine ⟨?_,R.kn,R.fr,?_,?_,R.o0,?_,?_,?_,fun M h=>?_,fun n b h=>?_,?_⟩
 ·intro b x e
  have hb:b≠a:=fun z=>by rw [z,hk] at e;cases e
  rw [upd_ne hb];exact R.ex _ _ e
 ·intro b x e hO
  have hb:b≠a:=fun z=>by
   subst z
   rcases h0 with z|z
   ·rw [z] at e;cases e
   ·exact hO z
  rw [upd_ne hb];exact R.kp b x e hO
 ·intro b hb
  refine ⟨?_,(R.oin b hb).2⟩
  by_cases e:b=a
  ·rw [e,upd_same]
   exact fun z=>nomatch z
  ·rw [upd_ne e]
   exact (R.oin b hb).1
 ·rw [oK]
  exact R.len
 ·intro j t hj
  rcases zAv hj with ⟨rfl,rfl⟩|⟨hne,hj⟩
  ·refine ⟨_,ha,?_⟩
   cases s with
   |own c=>obtain ⟨b,e1,q1,q2,_⟩:=h2;cases e1;exact ⟨a,rfl,q1,q2,h3⟩
   |io k c=>obtain ⟨b,e1,q1,q2,_⟩:=h2;cases e1;exact ⟨a,rfl,q1,q2,h3⟩
   |_=>cases hm
  ·obtain ⟨o,g1,g2⟩:=R.slot j t hj
   refine ⟨o,g1,?_⟩
   have nea:∀b,t.mut→o=some (.ref b)→b≠a:=fun b hmt e z=>by
    subst e z;exact hne (R.sep j i t s b hj hs hmt hm g1 ha)
   cases t with
   |own c=>
    obtain ⟨b,e1,z1,z2,z3⟩:=g2
    exact ⟨b,e1,z1,z2,z3.mono (Same.refl _) fun o z=>by rw [upd_ne (nea b trivial e1)];exact z⟩
   |io k c=>
    obtain ⟨b,e1,z1,z2,z3⟩:=g2
    exact ⟨b,e1,z1,z2,z3.mono (Same.refl _) fun o z=>by rw [upd_ne (nea b trivial e1)];exact z⟩
   |_=>exact g2
 ·have pm:∀{t:Slot} {c:Cell},(t.put c).mut→t.mut:=fun {t c} z=>by
   cases t<;>exact z
  intro j k s1 t1 b hj hk' ms mt g1 g2
  rcases zAv hj with ⟨rfl,rfl⟩|⟨_,hj2⟩
  ·rcases zAv hk' with ⟨rfl,rfl⟩|⟨_,hk'⟩
   ·rfl
   ·exact R.sep j k s t1 b hs hk' hm mt g1 g2
  ·rcases zAv hk' with ⟨rfl,rfl⟩|⟨_,hk'⟩
   ·exact R.sep j k s1 s b hj2 hs ms hm g1 g2
   ·exact R.sep j k s1 t1 b hj2 hk' ms mt g1 g2
 ·refine (R.sok M (zDu h (Slot.put_sto hm))).mono (Same.refl _) rfl (fun _ _ _ z=>z) (fun b o ⟨n,hb⟩ z=>?_) fun dx b z=>?_
  ·have ne:b≠a:=fun e=>R.psep i s a n hs hm ha (e ▸ hb)
   rw [upd_ne ne];exact z
  ·have ne:dx≠a:=fun e=>by
    obtain ⟨u,hu,hx⟩:=hob
    rw [e,hu] at z
    exact hx b (oG z)
   rw [upd_ne ne];exact z
 ·refine ⟨?_,(R.pin n b h).2⟩
  by_cases e:b=a
  ·rw [e,upd_same]
   exact fun z=>nomatch z
  ·rw [upd_ne e]
   exact (R.pin n b h).1
 ·intro j s1 b n hj ms g
  rcases zAv hj with ⟨rfl,rfl⟩|⟨_,hj2⟩
  ·exact R.psep j s b n hs hm g
  ·exact R.psep j s1 b n hj2 ms g
end
end Cm
namespace Cm
open PySem L2
abbrev ME:=Sl→Option (Res×Sl)
abbrev MT:=Sl→Option (Bool×Sl)
abbrev MA:=Sl→Option (List Res×Sl)
def tE (K:oB) (m:ME):TE:=fun σ H Q=>∃B env Hk r env',Rel K B env σ Hk H∧m env=some (r,env')∧
 ∀v Hk' H',Rel K B env' σ Hk' H'→KSame Hk Hk'→zCG K B env' σ Hk' H' r v→Q v H'
def tT (K:oB) (m:MT):TT:=fun σ H Q=>∃B env Hk b env',Rel K B env σ Hk H∧m env=some (b,env')∧
 ∀Hk' H',Rel K B env' σ Hk' H'→KSame Hk Hk'→Q b H'
def stab:Res→Res
 |.new c=>.dat c.dat
 |r=>r
def RsOk (K:oB) (σ:St) (Hk:Kn) (r:Res) (v:V):Prop:=match r with
 |.dat d=>Dv K Hk v d
 |.slt i=>σ[i]?=some (some v)
 |.pv p=>PvOk K Hk v p
 |.new _=>False
inductive RsAll (K:oB) (σ:St) (Hk:Kn):List Res→List V→Prop
 |nil:RsAll K σ Hk [] []
 |cons {r:Res} {v:V} {rs:List Res} {vs:List V}:RsOk K σ Hk r v→RsAll K σ Hk rs vs→RsAll K σ Hk (r::rs) (v::vs)
def tA (K:oB) (m:MA):TA:=fun σ H Q=>∃B env Hk rs env',Rel K B env σ Hk H∧m env=some (rs,env')∧
 ∀vs Hk' H',Rel K B env' σ Hk' H'→KSame Hk Hk'→RsAll K σ Hk' rs vs→Q vs H'
section
variable {K:oB} {B:Fb} {env:Sl} {σ:St} {Hk Hk':Kn} {H H':Hp} {r:Res} {v:V} {d:PyData}
theorem RsOk.mono (e:KSame Hk Hk') (h:RsOk K σ Hk r v):RsOk K σ Hk' r v:=by
 cases r with
 |dat d=>exact zAG e d v h
 |slt i=>exact h
 |new c=>exact h
 |pv p=>exact PvOk.mono e h
theorem RsAll.mono (e:KSame Hk Hk'):∀{rs:List Res} {vs:List V},RsAll K σ Hk rs vs→RsAll K σ Hk' rs vs
 |_,_,.nil=>.nil
 |_,_,.cons h t=>.cons (h.mono e) (RsAll.mono e t)
theorem Rel.stab (R:Rel K B env σ Hk H) (h:zCG K B env σ Hk H r v):∃Hk':Kn,Rel K B env σ Hk' H∧KSame Hk Hk'∧RsOk K σ Hk' (stab r) v:=by
 cases r with
 |dat d=>exact ⟨Hk,R,.refl _,h⟩
 |slt i=>exact ⟨Hk,R,.refl _,h⟩
 |pv p=>exact ⟨Hk,R,.refl _,h⟩
 |new c=>
  obtain ⟨a,rfl,h1,h2,hc,hP,h5⟩:=h
  obtain ⟨ob,h3,h4⟩:=hc.obj
  exact ⟨Hk.upd a ob,R.know h3 h1 h2 hP h5,zCg h1,h4 _ (zBm h1) upd_same⟩
def sto (env:Sl):List MC:=match env[env.length - 1]? with
 |some (.sto M)=>M
 |_=>[]
def zHX:List PV→Option (List PyData)
 |[]=>some []
 |.dat d::ps=>(zHX ps).map (d::·)
 |_::_=>none
def zJJ:List (PyData×PV)→Option (List (PyData×PyData))
 |[]=>some []
 |(k,.dat d)::ps=>(zJJ ps).map ((k,d)::·)
 |_::_=>none
def PV.rd (M:List MC):PV→Option PyData
 |.dat d=>some d
 |.tup ps=>(zHX ps).map .tuple
 |.ref n=>match M[n]? with
  |some (.lst ps)=>(zHX ps).map .list
  |some (.dct es)=>(zJJ es).map .dict
  |some (.kn (.lst ps))=>(zHX ps).map .list
  |some (.kn (.dct es))=>(zJJ es).map .dict
  |some (.lk es)=>some (.dict es)
  |_=>none
theorem zDw {K:oB} {Hk:Kn}:∀{ps:List PV} {vs:List V} {ds:List PyData},PvAll K Hk vs ps→zHX ps=some ds→DvAll K Hk vs ds
 |[],_,ds,.nil,h=>by
  cases h
  exact .nil
 |.dat d::ps,_,ds,.cons h1 h2,h=>by
  obtain ⟨e,h3,rfl⟩:=oD.mp h
  cases h1 with
  |dat q=>exact .cons q (zDw h2 h3)
 |.ref _::_,_,_,_,h=>by cases h
 |.tup _::_,_,_,_,h=>by cases h
theorem zEY {K:oB} {Hk:Kn}:∀{ps:List (PyData×PV)} {vs:List (Key×V)} {ds:List (PyData×PyData)},PvKv K Hk vs ps→zJJ ps=some ds→DvKv K Hk vs ds
 |[],_,ds,.nil,h=>by
  cases h
  exact .nil
 |(_,.dat d)::ps,_,ds,.cons h1 h2,h=>by
  obtain ⟨e,h3,rfl⟩:=oD.mp h
  cases h1 with
  |dat q=>exact .cons q (zEY h2 h3)
 |(_,.ref _)::_,_,_,.cons _ _,h=>by cases h
 |(_,.tup _)::_,_,_,.cons _ _,h=>by cases h
def PV.kn (M:List MC):PV→Option PyData
 |.dat d=>some d
 |.tup ps=>(zHX ps).map .tuple
 |.ref n=>match M[n]? with
  |some (.kn (.lst ps))=>(zHX ps).map .list
  |some (.kn (.dct es))=>(zJJ es).map .dict
  |some (.lk es)=>some (.dict es)
  |_=>none
def zFm (f:PV→Option PyData):List PV→Option (List PyData)
 |[]=>some []
 |p::ps=>(f p).bind fun d=>(zFm f ps).map (d::·)
def zGV (f:PV→Option PyData):List (PyData×PV)→Option (List (PyData×PyData))
 |[]=>some []
 |p::ps=>(f p.2).bind fun d=>(zGV f ps).map ((p.1,d)::·)
def PV.deep (M:List MC):Nat→PV→Option PyData
 |_,.dat d=>some d
 |0,_=>none
 |f+1,.tup ps=>(zFm (PV.deep M f) ps).map .tuple
 |f+1,.ref n=>match M[n]? with
  |some (.lst ps)=>(zFm (PV.deep M f) ps).map .list
  |some (.dct es)=>(zGV (PV.deep M f) es).map .dict
  |some (.kn (.lst ps))=>(zFm (PV.deep M f) ps).map .list
  |some (.kn (.dct es))=>(zGV (PV.deep M f) es).map .dict
  |some (.lk es)=>some (.dict es)
  |_=>none
def rdv (env:Sl):Res→Option PyData
 |.dat d=>some d
 |.pv p=>p.rd (sto env)
 |.new _=>none
 |.slt i=>match env[i]? with
  |some (.val d)=>some d
  |some (.own c)=>some c.dat
  |some (.io _ c)=>some c.dat
  |_=>none
def View (K:oB) (Hk H:Hp) (v:V) (d:PyData):Prop:=Dv K Hk v d∨∃a c,v=.ref a∧d=Cell.dat c∧CellAt K Hk H a c
theorem Rel.stoAt (R:Rel K B env σ Hk H) {n:Nat} {c:MC} (h:(sto env)[n]?=some c):HasSto env (sto env)∧∃a,Hk.P n=some a∧CellM K Hk H a c∧(c.live→Hk a=none):=by
 have hS:HasSto env (sto env):=by
  unfold sto HasSto at*
  split at h
  ·assumption
  ·simp at h
 exact ⟨hS,(R.sok _ hS).cel n c h⟩
theorem Rel.knP (R:Rel K B env σ Hk H) {p:PV} (h:PvOk K Hk v p) (e:p.kn (sto env)=some d):Dv K Hk v d:=by
 cases h with
 |dat q=>
  cases e
  exact q
 |tup q1 q2=>
  obtain ⟨ds,h3,rfl⟩:=oD.mp e
  exact .tup q1.sq (zDw q2 h3)
 |@ref a n q=>
  unfold PV.kn at e;simp only at e
  cases hc:(sto env)[n]? with
  |none=>simp only [hc] at e;cases e
  |some c=>
   obtain ⟨hS,b,g1,g2,g3⟩:=R.stoAt hc
   rw [q] at g1
   cases g1
   simp only [hc] at e
   cases c with
   |lk es=>
    cases e
    obtain ⟨od,kvs,h1,h2⟩:=g2
    exact .dct (.inr ⟨od,h1⟩) h2
   |kn c'=>
    cases c' with
    |lst ps=>
     obtain ⟨ds,h3,rfl⟩:=oD.mp e
     obtain ⟨vs,h4,h5⟩:=g2
     exact .lst h4 (zDw h5 h3)
    |dct ps=>
     obtain ⟨ds,h3,rfl⟩:=oD.mp e
     obtain ⟨vs,h4,h5⟩:=g2
     exact .dct (.inl h4) (zEY h5 h3)
    |_=>cases e
   |_=>cases e
theorem zEw {K:oB} {Hk:Kn} {Hl:Hp} {g:PV→Option PyData} (ih:∀{p:PV} {v:V} {d:PyData},PvOk K Hk v p→g p=some d→Dv K Hl v d):∀{ps:List PV} {vs:List V} {ds:List PyData},PvAll K Hk vs ps→zFm g ps=some ds→DvAll K Hl vs ds
 |[],_,ds,.nil,h=>by
  cases h
  exact .nil
 |p::ps,_,ds,.cons w1 w2,h=>by
  obtain ⟨d1,g1,h3⟩:=oC.mp h
  obtain ⟨ds1,g2,rfl⟩:=oD.mp h3
  exact .cons (ih w1 g1) (zEw ih w2 g2)
theorem zIp {K:oB} {Hk:Kn} {Hl:Hp} {g:PV→Option PyData} (ih:∀{p:PV} {v:V} {d:PyData},PvOk K Hk v p→g p=some d→Dv K Hl v d):∀{ps:List (PyData×PV)} {vs:List (Key×V)} {ds:List (PyData×PyData)},PvKv K Hk vs ps→zGV g ps=some ds→DvKv K Hl vs ds
 |[],_,ds,.nil,h=>by
  cases h
  exact .nil
 |(_,p)::ps,_,ds,.cons w1 w2,h=>by
  obtain ⟨d1,g1,h3⟩:=oC.mp h
  obtain ⟨ds1,g2,rfl⟩:=oD.mp h3
  exact .cons (ih w1 g1) (zIp ih w2 g2)
theorem Rel.deepP (R:Rel K B env σ Hk H) {Hl:Hp} (s:Same Hk Hl) (hl:∀(n:Nat) c a,(sto env)[n]?=some c→c.live→Hk.P n=some a→Hl a=H a):∀(f:Nat) {p:PV} {v:V} {d:PyData},PvOk K Hk v p→p.deep (sto env) f=some d→Dv K Hl v d
 |f,.dat d',v,d,h,e=>by
  have e:some d'=some d:=by cases f<;>exact e
  cases e
  cases h with
  |dat q=>exact zAG s _ _ q
 |0,.tup ps,v,d,h,e=>by cases e
 |0,.ref n,v,d,h,e=>by cases e
 |f+1,.tup ps,v,d,h,e=>by
  obtain ⟨ds,h3,rfl⟩:=oD.mp e
  cases h with
  |@tup a vs _ q1 q2=>exact .tup (zAV s q1.sq) (zEw (fun w g=>Rel.deepP R s hl f w g) q2 h3)
 |f+1,.ref n,v,d,h,e=>by
  cases h with
  |@ref a _ q=>
   unfold PV.deep at e;cases hc:(sto env)[n]? with
   |none=>simp only [hc] at e;cases e
   |some c=>
    obtain ⟨hS,b,g1,g2,g3⟩:=R.stoAt hc
    rw [q] at g1
    cases g1
    simp only [hc] at e
    have hla:=hl n c a hc
    clear hc
    cases c with
    |ins C fs=>cases e
    |tab x=>cases e
    |lk es=>
     cases e
     obtain ⟨od,kvs,h1,h2⟩:=g2
     exact .dct (.inr ⟨od,s _ _ h1⟩) (dvKv_mono s h2)
    |kn c'=>
     cases c' with
     |lst ps=>
      obtain ⟨ds,h3,rfl⟩:=oD.mp e
      obtain ⟨vs,h4,q2⟩:=g2
      exact .lst (s _ _ h4) (zEw (fun w g=>Rel.deepP R s hl f w g) q2 h3)
     |dct ps=>
      obtain ⟨ds,h3,rfl⟩:=oD.mp e
      obtain ⟨vs,h4,q2⟩:=g2
      exact .dct (.inl (s _ _ h4)) (zIp (fun w g=>Rel.deepP R s hl f w g) q2 h3)
     |_=>cases e
    |lst ps=>
     have ha:=hla trivial q
     obtain ⟨ds,h3,rfl⟩:=oD.mp e
     obtain ⟨vs,h4,q2⟩:=g2
     exact .lst (by rw [ha];exact h4) (zEw (fun w g=>Rel.deepP R s hl f w g) q2 h3)
    |dct ps=>
     have ha:=hla trivial q
     obtain ⟨ds,h3,rfl⟩:=oD.mp e
     obtain ⟨vs,h4,q2⟩:=g2
     exact .dct (.inl (by rw [ha];exact h4)) (zIp (fun w g=>Rel.deepP R s hl f w g) q2 h3)
theorem Rel.viewP (R:Rel K B env σ Hk H) {p:PV} (h:PvOk K Hk v p) (e:p.rd (sto env)=some d):View K Hk H v d:=by
 cases h with
 |dat q=>
  cases e
  exact .inl q
 |tup q1 q2=>
  obtain ⟨ds,h3,rfl⟩:=oD.mp e
  exact .inl (.tup q1.sq (zDw q2 h3))
 |@ref a n q=>
  unfold PV.rd at e;simp only at e
  cases hc:(sto env)[n]? with
  |none=>simp only [hc] at e;cases e
  |some c=>
   obtain ⟨hS,b,g1,g2,g3⟩:=R.stoAt hc
   rw [q] at g1
   cases g1
   simp only [hc] at e
   cases c with
   |lst ps=>
    obtain ⟨ds,h3,rfl⟩:=oD.mp e
    obtain ⟨vs,h4,h5⟩:=g2
    exact .inr ⟨a,.lst ds,rfl,rfl,vs,h4,zDw h5 h3⟩
   |dct ps=>
    obtain ⟨ds,h3,rfl⟩:=oD.mp e
    obtain ⟨vs,h4,h5⟩:=g2
    exact .inr ⟨a,.dct ds,rfl,rfl,vs,h4,zEY h5 h3⟩
   |ins C fs=>cases e
   |tab x=>cases e
   |lk es=>
    cases e
    obtain ⟨od,kvs,h1,h2⟩:=g2
    exact .inl (.dct (.inr ⟨od,h1⟩) h2)
   |kn c'=>
    cases c' with
    |lst ps=>
     obtain ⟨ds,h3,rfl⟩:=oD.mp e
     obtain ⟨vs,h4,h5⟩:=g2
     exact .inl (.lst h4 (zDw h5 h3))
    |dct ps=>
     obtain ⟨ds,h3,rfl⟩:=oD.mp e
     obtain ⟨vs,h4,h5⟩:=g2
     exact .inl (.dct (.inl h4) (zEY h5 h3))
    |_=>cases e
theorem Rel.view (R:Rel K B env σ Hk H) (h:RsOk K σ Hk r v) (e:rdv env r=some d):View K Hk H v d:=by
 cases r with
 |pv p=>exact R.viewP h e
 |dat d'=>
  cases e
  exact .inl h
 |new c=>exact False.elim h
 |slt i=>
  have h:σ[i]?=some (some v):=h
  cases q:env[i]? with
  |none=>
   simp only [rdv,q] at e
   cases e
  |some s=>
   obtain ⟨o,h1,h2⟩:=R.slot i s q
   rw [h] at h1
   cases h1
   simp only [rdv,q] at e
   cases s with
   |no=>cases e
   |scr ns=>cases e
   |pin a=>cases e
   |pv p=>cases e
   |sto M=>cases e
   |val d'=>
    cases e
    obtain ⟨v',e1,z⟩:=h2
    cases e1
    exact .inl z
   |own c=>
    cases e
    obtain ⟨a,e1,q1,q2,q3⟩:=h2
    cases e1
    exact .inr ⟨a,c,rfl,rfl,q3⟩
   |io k c=>
    cases e
    obtain ⟨a,e1,q1,q2,q3⟩:=h2
    cases e1
    exact .inr ⟨a,c,rfl,rfl,q3⟩
theorem View.dv {Hk:Hp} (h:View K Hk H v d) (e:Same Hk H):Dv K H v d:=by
 rcases h with h|⟨a,c,rfl,rfl,h1⟩
 ·exact zAG e d v h
 ·obtain ⟨ob,h2,h3⟩:=h1.obj
  exact h3 _ e h2
theorem View.int {Hk:Hp} {i:Int} (h:View K Hk H v (.int i)):v=.int i:=by
 rcases h with h|⟨a,c,rfl,e,_⟩
 ·cases h;rfl
 ·cases c<;>cases e
theorem View.str {Hk:Hp} {x:Str} (h:View K Hk H v (.str x)):v=.str x:=by
 rcases h with h|⟨a,c,rfl,e,_⟩
 ·cases h;rfl
 ·cases c<;>cases e
theorem View.bool {Hk:Hp} {b:Bool} (h:View K Hk H v (.bool b)):v=.bl b:=by
 rcases h with h|⟨a,c,rfl,e,_⟩
 ·cases h;rfl
 ·cases c<;>cases e
theorem View.non {Hk:Hp} (h:View K Hk H v .none):v=.non:=by
 rcases h with h|⟨a,c,rfl,e,_⟩
 ·cases h;rfl
 ·cases c<;>cases e
theorem View.list {Hk:Hp} {ds:List PyData} (h:View K Hk H v (.list ds)) (e:Same Hk H):∃a vs,v=.ref a∧H a=some (.lst vs)∧DvAll K Hk vs ds:=by
 rcases h with h|⟨a,c,rfl,q,h1⟩
 ·cases h with
  |lst h1 h2=>exact ⟨_,_,rfl,e _ _ h1,h2⟩
 ·cases c with
  |dct _=>cases q
  |lst ds'=>
   cases q
   obtain ⟨vs,h1,h2⟩:=h1
   exact ⟨a,vs,rfl,h1,h2⟩
theorem View.dict {Hk:Hp} {es:List (PyData×PyData)} (h:View K Hk H v (.dict es)) (e:Same Hk H):∃a kvs,v=.ref a∧Rd H a (.dK kvs)∧DvKv K Hk kvs es:=by
 rcases h with h|⟨a,c,rfl,q,h1⟩
 ·cases h with
  |dct h1 h2=>exact ⟨_,_,rfl,zJa e h1,h2⟩
 ·cases c with
  |lst _=>cases q
  |dct es'=>
   cases q
   obtain ⟨vs,h1,h2⟩:=h1
   exact ⟨a,vs,rfl,.inl h1,h2⟩
theorem View.tup {Hk:Hp} {ds:List PyData} (h:View K Hk H v (.tuple ds)) (e:Same Hk H):∃a vs,v=.ref a∧SqT K H a vs∧DvAll K Hk vs ds:=by
 rcases h with h|⟨a,c,rfl,q,h1⟩
 ·cases h with
  |tup h1 h2=>exact ⟨_,_,rfl,zAV e h1,h2⟩
 ·cases c<;>cases q
end
theorem _root_.L2.PE.imp {X:Cx} {e:Expr} {t t':TE} (h:PE X e t) (k:∀σ H Q,t' σ H Q→t σ H Q):PE X e t':=⟨fun pins s σ H Q I q=>h.run pins s σ H Q I (k σ H Q q)⟩
theorem _root_.L2.PT.imp {X:Cx} {e:Expr} {t t':TT} (h:PT X e t) (k:∀σ H Q,t' σ H Q→t σ H Q):PT X e t':=⟨fun pins s σ H Q I q=>h.run pins s σ H Q I (k σ H Q q)⟩
theorem _root_.L2.PW.imp {X:Cx} {e:Expr} {t t':TT} (h:PW X e t) (k:∀σ H Q,t' σ H Q→t σ H Q):PW X e t':=⟨fun wh pins s σ H Q I q=>h.run wh pins s σ H Q I (k σ H Q q)⟩
theorem _root_.L2.PA.imp {X:Cx} {e:List Expr} {t t':TA} (h:PA X e t) (k:∀σ H Q,t' σ H Q→t σ H Q):PA X e t':=⟨fun pos pins s σ H Q I q=>h.run pos pins s σ H Q I (k σ H Q q)⟩
abbrev VE (X:Cx) (e:Expr) (m:ME):Prop:=PE X e (tE X.K m)
abbrev VT (X:Cx) (e:Expr) (m:MT):Prop:=PT X e (tT X.K m)
abbrev VW (X:Cx) (e:Expr) (m:MT):Prop:=PW X e (tT X.K m)
abbrev VA (X:Cx) (es:List Expr) (m:MA):Prop:=PA X es (tA X.K m)
def zAc (i:Nat):ME:=fun env=>match env[i]? with
 |some (.val d)=>some (.dat d,env)
 |some (.own _)=>some (.slt i,env)
 |some (.io _ _)=>some (.slt i,env)
 |some (.scr _)=>some (.slt i,env)
 |some (.pv p)=>some (.pv p,env)
 |_=>none
def mC (d:PyData):ME:=fun env=>some (.dat d,env)
section
variable {X:Cx} {K:oB}
theorem zKo {i:Nat} {σ:St} {H:Hp} {Q:VK} (h:tE K (zAc i) σ H Q):tVar i σ H Q:=by
 obtain ⟨B,env,Hk,r,env',R,hm,k⟩:=h
 unfold zAc at hm;cases q:env[i]? with
 |none=>
  rw [q] at hm
  cases hm
 |some s=>
  rw [q] at hm
  obtain ⟨o,h1,h2⟩:=R.slot i s q
  cases s with
  |no=>cases hm
  |val d=>
   cases hm
   obtain ⟨v,rfl,z⟩:=h2
   exact ⟨v,h1,k v Hk H R (.refl _) z⟩
  |own c=>
   cases hm
   obtain ⟨a,rfl,z⟩:=h2
   exact ⟨_,h1,k _ Hk H R (.refl _) h1⟩
  |io k c=>
   cases hm
   obtain ⟨a,rfl,z⟩:=h2
   exact ⟨_,h1,k _ Hk H R (.refl _) h1⟩
  |scr c=>
   cases hm
   obtain ⟨a,rfl,z⟩:=h2
   exact ⟨_,h1,k _ Hk H R (.refl _) h1⟩
  |pv p=>
   cases hm
   obtain ⟨v,rfl,z⟩:=h2
   exact ⟨v,h1,k v Hk H R (.refl _) z⟩
  |sto M=>cases hm
  |pin a=>cases hm
theorem zAa (i:Nat) {x:Str} {pos:Pos} (hN:X.N[i]?=some x:=by rfl) (hv:Vis X.env.scope x:=by first|exact Or.inl rfl|exact Or.inr (Or.inl rfl)|exact Or.inr (Or.inr rfl)) (hd:(x==("__debug__":Str))=false:=by decide)
  (hcd:(x==("__classdict__":Str))=false:=by decide):VE X (.Name x pos) (zAc i):=(pe_var hN hv hd hcd).imp fun _ _ _=>zKo
theorem c_av {v:V} {d:PyData} (hd:∀Hk,Dv K Hk v d) {σ:St} {H:Hp} {Q:VK} (h:tE K (mC d) σ H Q):tC v σ H Q:=by
 obtain ⟨B,env,Hk,r,env',R,hm,k⟩:=h
 cases hm
 exact k v Hk H R (.refl _) (hd Hk)
theorem zAd {i j pos}:VE X (.Constant (.int i) j pos) (mC (.int i)):=pe_int.imp fun _ _ _=>c_av fun _=>.int i
theorem zFb {b j pos}:VE X (.Constant (.bool b) j pos) (mC (.bool b)):=pe_bl.imp fun _ _ _=>c_av fun _=>.bl b
theorem zDW {j pos}:VE X (.Constant .none j pos) (mC .none):=pe_non.imp fun _ _ _=>c_av fun _=>.non
theorem zE5 {x j pos}:VE X (.Constant (.str x) j pos) (mC (.str x)):=pe_str.imp fun _ _ _=>c_av fun _=>.str x
theorem zDN {x:Str} {v:V} {u:Value} {pos:Pos} {d:PyData} (hg:Gl X x) (hm:X.mg x=some u) (r:RelV v u) (hv:∀Hk,Dv X.K Hk v d) (hd:(x==("__debug__":Str))=false:=by decide):VE X (.Name x pos) (mC d):=
 (pe_glob hg hm r hd).imp fun _ _ _=>c_av hv
end
def frz:Res×Sl→Option (Res×Sl)
 |(.dat d,e)=>some (.dat d,e)
 |(.new c,e)=>some (.dat c.dat,e)
 |(.pv (.dat d),e)=>some (.dat d,e)
 |(.pv _,_)=>none
 |(.slt i,e)=>match e[i]? with
  |some (.val d)=>some (.dat d,e)
  |some (.own c)=>some (.dat c.dat,e.set i (.val c.dat))
  |_=>none
def mFrz (m:ME):ME:=fun env=>(m env).bind frz
section
variable {X:Cx} {K:oB}
theorem Rel.frz {B:Fb} {env env':Sl} {σ:St} {Hk:Kn} {H:Hp} {r r':Res} {v:V} (R:Rel K B env σ Hk H) (o:zCG K B env σ Hk H r v) (h:Cm.frz (r,env)=some (r',env')):
  ∃Hk':Kn,∃d,r'=.dat d∧Rel K B env' σ Hk' H∧KSame Hk Hk'∧Dv K Hk' v d:=by
 cases r with
 |dat d=>
  cases h
  exact ⟨Hk,d,rfl,R,.refl _,o⟩
 |new c=>
  cases h
  obtain ⟨Hk',R',s,q⟩:=R.stab o
  exact ⟨Hk',_,rfl,R',s,q⟩
 |pv p=>
  cases p with
  |dat d=>
   cases h
   cases o with
   |dat q=>exact ⟨Hk,d,rfl,R,.refl _,q⟩
  |ref n=>cases h
  |tup ps=>cases h
 |slt i=>
  unfold Cm.frz at h;have o:σ[i]?=some (some v):=o
  cases q:env[i]? with
  |none=>simp only [q] at h;cases h
  |some s=>
   simp only [q] at h
   cases s with
   |no=>cases h
   |scr ns=>cases h
   |pin a=>cases h
   |pv p=>cases h
   |sto M=>cases h
   |io k c=>cases h
   |val d=>
    cases h
    obtain ⟨o',h1,v',e1,z⟩:=R.slot i _ q
    rw [o] at h1
    cases h1
    cases e1
    exact ⟨Hk,d,rfl,R,.refl _,z⟩
   |own c=>
    cases h
    obtain ⟨a,Hk',h1,R',s,z⟩:=R.freezeC q
    rw [o] at h1
    cases h1
    exact ⟨Hk',_,rfl,R',s,z⟩
theorem zL6 {m:ME} {σ:St} {H:Hp} {Q:VK} (h:tE K (mFrz m) σ H Q):tE K m σ H Q:=by
 obtain ⟨B,env,Hk,r,env',R,hm,k⟩:=h
 obtain ⟨⟨r1,e1⟩,h1,h2⟩:=oC.mp hm
 refine ⟨B,env,Hk,r1,e1,R,h1,fun v Hk1 H1 R1 s1 o1=>?_⟩
 obtain ⟨Hk',d,rfl,R',s',z⟩:=R1.frz o1 h2
 exact k v Hk' H1 R' (s1.trans s') z
theorem zAh {e:Expr} {m:ME} (h:VE X e m):VE X e (mFrz m):=h.imp fun _ _ _=>zL6
end
def OpD (K:oB) (r:R2) (g:PyData→PyData→Option Res):Prop:=∀(Hk H:Hp) (x y:V) (dx dy:PyData) (res:Res) (Q:VK),Same Hk H→View K Hk H x dx→View K Hk H y dy→g dx dy=some res→(∀v H',Out K Hk H res v H'→Q v H')→r x y H Q
def mOp (g:PyData→PyData→Option Res) (ma mb:ME):ME:=fun env=>(ma env).bind fun p=>(mb p.2).bind fun q=>(rdv q.2 (stab p.1)).bind fun dx=>(rdv q.2 (stab q.1)).bind fun dy=>(g dx dy).map fun r=>(r,q.2)
section
variable {X:Cx} {K:oB} {g g':PyData→PyData→Option Res} {r r':R2} {ma mb mc:ME} {a b c:Expr} {pos:Pos}
theorem zIe (hg:OpD K r g) {σ:St} {H:Hp} {Q:VK} (h:tE K (mOp g ma mb) σ H Q):tOp r (tE K ma) (tE K mb) σ H Q:=by
 obtain ⟨B,env,Hk,res,env',R,hm,k⟩:=h
 obtain ⟨⟨x,e1⟩,h1,hm⟩:=oC.mp hm
 obtain ⟨⟨y,e2⟩,h2,hm⟩:=oC.mp hm
 obtain ⟨dx,h3,hm⟩:=oC.mp hm
 obtain ⟨dy,h4,hm⟩:=oC.mp hm
 obtain ⟨res',h5,hm⟩:=oD.mp hm
 cases hm
 refine ⟨B,env,Hk,x,e1,R,h1,fun v Hk1 H1 R1 s1 o1=>?_⟩
 obtain ⟨Hk1',R1',s1',o1'⟩:=R1.stab o1
 refine ⟨B,e1,Hk1',y,e2,R1',h2,fun w Hk2 H2 R2 s2 o2=>?_⟩
 obtain ⟨Hk2',R2',s2',o2'⟩:=R2.stab o2
 refine hg Hk2' H2 v w dx dy res Q R2'.ex (R2'.view ((o1'.mono s2).mono s2') h3) (R2'.view o2' h4) h5 fun z H3 out=>?_;obtain ⟨Hk3,R3,s3,o3⟩:=R2'.out out
 exact k z Hk3 H3 R3 ((((s1.trans s1').trans s2).trans s2').trans s3) o3
theorem zAm {op:Operator} (ho:OpR X (binaryOp op) r) (hg:OpD X.K r g) (ha:VE X a ma) (hb:VE X b mb):VE X (.BinOp a op b pos) (mOp g ma mb):=(pe_op ho ha hb).imp fun _ _ _=>zIe hg
theorem zDB {op:CmpOp} (ho:OpR X (compareOp op) r) (hg:OpD X.K r g) (ha:VE X a ma) (hb:VE X b mb) (hm:behindInMarks op b=false):VE X (.Compare a [op] [b] pos) (mOp g ma mb):=(pe_cmpR ho ha hb hm).imp fun _ _ _=>zIe hg
theorem zAY (hi:IxR X r) (hg:OpD X.K r g) (ha:VE X a ma) (hb:VE X b mb) (hs:PlainIx b):VE X (.Subscript a b pos) (mOp g ma mb):=(pe_ix hi ha hb hs).imp fun _ _ _=>zIe hg
def zAD (m:ME):MT:=fun env=>(m env).bind fun p=>match p.1 with
 |.dat (.bool b)=>some (b,p.2)
 |_=>none
theorem zGl {m:ME} {σ:St} {H:Hp} {Q:Bool→Hp→Prop} (h:tT K (zAD m) σ H Q):tE K m σ H fun x H'=>∃k,x=.bl k∧Q k H':=by
 obtain ⟨B,env,Hk,b,env',R,hm,k⟩:=h
 obtain ⟨⟨x,e1⟩,h1,hm⟩:=oC.mp hm
 refine ⟨B,env,Hk,x,e1,R,h1,fun v Hk1 H1 R1 s1 o1=>?_⟩
 cases x with
 |new c=>cases hm
 |slt i=>cases hm
 |pv p=>cases hm
 |dat d=>
  cases d with
  |bool b'=>
   cases hm
   cases o1
   exact ⟨b,rfl,k Hk1 H1 R1 s1⟩
  |_=>cases hm
theorem zA0 {op:CmpOp} (ho:OpR X (compareOp op) r) (hg:OpD X.K r g) (ha:VE X a ma) (hb:VE X b mb) (hm:behindInMarks op b=false):VT X (.Compare a [op] [b] pos) (zAD (mOp g ma mb)):=
 (pt_cmpR ho ha hb hm).imp fun _ _ _ h=>zIe hg (zGl h)
theorem zBz {m:ME} (h:VE X a m) (he:∀whole,isTrue a X.env whole=(do let v ←whole;standAt a.pos;holding [v] (truthy v)):=by intro _;rfl):VT X a (zAD m):=
 (pt_val h he).imp fun _ _ _ h=>zGl h
def zDe (g g':PyData→PyData→Option Res) (ma mb mc:ME):ME:=fun env=>(ma env).bind fun p=>(mb p.2).bind fun q=>(rdv q.2 (stab p.1)).bind fun dx=>(rdv q.2 (stab q.1)).bind fun dy=>(g dx dy).bind fun r=>match r with
 |.dat (.bool true)=>(mc q.2).bind fun t=>(rdv t.2 (stab q.1)).bind fun dy'=>(rdv t.2 (stab t.1)).bind fun dz=>(g' dy' dz).map fun r=>(r,t.2)
 |.dat (.bool false)=>some (.dat (.bool false),q.2)
 |_=>none
theorem zHp (hg:OpD K r g) (hg':OpD K r' g') {σ:St} {H:Hp} {Q:VK} (h:tE K (zDe g g' ma mb mc) σ H Q):tChain r r' (tE K ma) (tE K mb) (tE K mc) σ H Q:=by
 obtain ⟨B,env,Hk,res,env',R,hm,k⟩:=h
 obtain ⟨⟨x,e1⟩,h1,hm⟩:=oC.mp hm
 obtain ⟨⟨y,e2⟩,h2,hm⟩:=oC.mp hm
 obtain ⟨dx,h3,hm⟩:=oC.mp hm
 obtain ⟨dy,h4,hm⟩:=oC.mp hm
 obtain ⟨res',h5,hm⟩:=oC.mp hm
 refine ⟨B,env,Hk,x,e1,R,h1,fun v Hk1 H1 R1 s1 o1=>?_⟩
 obtain ⟨Hk1',R1',s1',o1'⟩:=R1.stab o1
 refine ⟨B,e1,Hk1',y,e2,R1',h2,fun w Hk2 H2 R2 s2 o2=>?_⟩
 obtain ⟨Hk2',R2',s2',o2'⟩:=R2.stab o2
 refine hg Hk2' H2 v w dx dy res' _ R2'.ex (R2'.view ((o1'.mono s2).mono s2') h3) (R2'.view o2' h4) h5 fun z H3 out=>?_;obtain ⟨Hk3,R3,s3,o3⟩:=R2'.out out
 have sm:=(((s1.trans s1').trans s2).trans s2').trans s3
 cases res' with
 |new c=>cases hm
 |slt i=>cases hm
 |pv p=>cases hm
 |dat d=>
  cases d with
  |bool bb=>
   cases o3
   cases bb with
   |false=>
    cases hm
    exact ⟨false,rfl,k _ Hk3 H3 R3 sm (.bl false)⟩
   |true=>
    refine ⟨true,rfl,?_⟩
    show tE K mc σ H3 _
    obtain ⟨⟨t,e3⟩,h6,hm⟩:=oC.mp hm
    obtain ⟨dy',h7,hm⟩:=oC.mp hm
    obtain ⟨dz,h8,hm⟩:=oC.mp hm
    obtain ⟨res2,h9,hm⟩:=oD.mp hm
    cases hm
    refine ⟨B,e2,Hk3,t,e3,R3,h6,fun u Hk4 H4 R4 s4 o4=>?_⟩
    obtain ⟨Hk4',R4',s4',o4'⟩:=R4.stab o4
    refine hg' Hk4' H4 w u dy' dz res Q R4'.ex (R4'.view (((o2'.mono s3).mono s4).mono s4') h7) (R4'.view o4' h8) h9 fun z H5 out=>?_;obtain ⟨Hk5,R5,s5,o5⟩:=R4'.out out
    exact k z Hk5 H5 R5 (((sm.trans s4).trans s4').trans s5) o5
  |_=>cases hm
theorem zJ6 {op op':CmpOp} (ho:OpR X (compareOp op) r) (hg:OpD X.K r g) (ho':OpR X (compareOp op') r') (hg':OpD X.K r' g') (ha:VE X a ma) (hb:VE X b mb) (hc:VE X c mc)
  (hm:lastMarks [op,op'] [b,c]=false:=by with_unfolding_all rfl):VE X (.Compare a [op,op'] [b,c] pos) (zDe g g' ma mb mc):=(pe_chain ho ho' ha hb hc hm).imp fun _ _ _=>zHp hg hg'
theorem zGi {op op':CmpOp} (ho:OpR X (compareOp op) r) (hg:OpD X.K r g) (ho':OpR X (compareOp op') r') (hg':OpD X.K r' g') (ha:VE X a ma) (hb:VE X b mb) (hc:VE X c mc)
  (hm:lastMarks [op,op'] [b,c]=false:=by with_unfolding_all rfl):VT X (.Compare a [op,op'] [b,c] pos) (zAD (zDe g g' ma mb mc)):=(pt_chain ho ho' ha hb hc hm).imp fun _ _ _ h=>zHp hg hg' (zGl h)
end
def UnD (K:oB) (r:V→Hp→VK→Prop) (g:PyData→Option Res):Prop:=∀(Hk H:Hp) (x:V) (dx:PyData) (res:Res) (Q:VK),Same Hk H→View K Hk H x dx→g dx=some res→(∀v H',Out K Hk H res v H'→Q v H')→r x H Q
def mUn (g:PyData→Option Res) (ma:ME):ME:=fun env=>(ma env).bind fun p=>(rdv p.2 (stab p.1)).bind fun dx=>(g dx).map fun r=>(r,p.2)
section
variable {X:Cx} {K:oB} {g:PyData→Option Res} {r:V→Hp→VK→Prop} {ma mb:ME} {t u:MT} {a b c:Expr} {rest:List Expr} {pos:Pos}
theorem zMJ (hg:UnD K r g) {σ:St} {H:Hp} {Q:VK} (h:tE K (mUn g ma) σ H Q):tUn r (tE K ma) σ H Q:=by
 obtain ⟨B,env,Hk,res,env',R,hm,k⟩:=h
 obtain ⟨⟨x,e1⟩,h1,hm⟩:=oC.mp hm
 obtain ⟨dx,h3,hm⟩:=oC.mp hm
 obtain ⟨res',h5,hm⟩:=oD.mp hm
 cases hm
 refine ⟨B,env,Hk,x,e1,R,h1,fun v Hk1 H1 R1 s1 o1=>?_⟩
 obtain ⟨Hk1',R1',s1',o1'⟩:=R1.stab o1
 refine hg Hk1' H1 v dx res Q R1'.ex (R1'.view o1' h3) h5 fun z H3 out=>?_;obtain ⟨Hk3,R3,s3,o3⟩:=R1'.out out
 exact k z Hk3 H3 R3 ((s1.trans s1').trans s3) o3
theorem zE4 {op:UnaryOp} (ho:UnR X (unaryOp op) r) (hg:UnD X.K r g) (ha:VE X a ma):VE X (.UnaryOp op a pos) (mUn g ma):=(pe_un ho ha).imp fun _ _ _=>zMJ hg
def mAnd (t u:MT):MT:=fun env=>(t env).bind fun p=>if p.1=true then u p.2 else some (false,p.2)
def mOr (t u:MT):MT:=fun env=>(t env).bind fun p=>if p.1=true then some (true,p.2) else u p.2
def mNot (t:MT):MT:=fun env=>(t env).map fun p=>(!p.1,p.2)
theorem zMi {σ:St} {H:Hp} {Q:Bool→Hp→Prop} (h:tT K (mAnd t u) σ H Q):tAnd (tT K t) (tT K u) σ H Q:=by
 obtain ⟨B,env,Hk,b,env',R,hm,k⟩:=h
 obtain ⟨⟨c,e1⟩,h1,hm⟩:=oC.mp hm
 refine ⟨B,env,Hk,c,e1,R,h1,fun Hk1 H1 R1 s1=>?_⟩
 cases c with
 |true=>exact ⟨B,e1,Hk1,b,env',R1,hm,fun Hk2 H2 R2 s2=>k Hk2 H2 R2 (s1.trans s2)⟩
 |false=>
  cases hm
  exact k Hk1 H1 R1 s1
theorem zMW {σ:St} {H:Hp} {Q:Bool→Hp→Prop} (h:tT K (mOr t u) σ H Q):tOr (tT K t) (tT K u) σ H Q:=by
 obtain ⟨B,env,Hk,b,env',R,hm,k⟩:=h
 obtain ⟨⟨c,e1⟩,h1,hm⟩:=oC.mp hm
 refine ⟨B,env,Hk,c,e1,R,h1,fun Hk1 H1 R1 s1=>?_⟩
 cases c with
 |false=>exact ⟨B,e1,Hk1,b,env',R1,hm,fun Hk2 H2 R2 s2=>k Hk2 H2 R2 (s1.trans s2)⟩
 |true=>
  cases hm
  exact k Hk1 H1 R1 s1
theorem zLL {σ:St} {H:Hp} {Q:Bool→Hp→Prop} (h:tT K (mNot t) σ H Q):tNot (tT K t) σ H Q:=by
 obtain ⟨B,env,Hk,b,env',R,hm,k⟩:=h
 obtain ⟨⟨c,e1⟩,h1,hm⟩:=oD.mp hm
 cases hm
 exact ⟨B,env,Hk,c,e1,R,h1,k⟩
theorem zHC (ha:VT X a t):VW X (.BoolOp .And [a] pos) t:=pw_and1 ha
theorem zDA (ha:VT X a t):VW X (.BoolOp .Or [a] pos) t:=pw_or1 ha
theorem zH6 (ha:VT X a t) (hb:VW X (.BoolOp .And (b::rest) pos) u):VW X (.BoolOp .And (a::b::rest) pos) (mAnd t u):=(pw_and ha hb).imp fun _ _ _=>zMi
theorem zE3 (ha:VT X a t) (hb:VW X (.BoolOp .Or (b::rest) pos) u):VW X (.BoolOp .Or (a::b::rest) pos) (mOr t u):=(pw_or ha hb).imp fun _ _ _=>zMW
theorem vt_w {e:Expr} (h:VW X e t):VT X e t:=PW.pt h
theorem zCZ (ha:VT X a t):VT X (.UnaryOp .Not a pos) (mNot t):=(pt_not ha).imp fun _ _ _=>zLL
def zEv (ma mb:ME):ME:=fun env=>(ma env).bind fun p=>match p.1 with
 |.dat (.bool true)=>mb p.2
 |.dat (.bool false)=>some (.dat (.bool false),p.2)
 |_=>none
def mOrV (ma mb:ME):ME:=fun env=>(ma env).bind fun p=>match p.1 with
 |.dat (.bool false)=>mb p.2
 |.dat (.bool true)=>some (.dat (.bool true),p.2)
 |_=>none
def zIK (ma:ME):ME:=fun env=>(ma env).bind fun p=>match p.1 with
 |.dat (.bool b)=>some (.dat (.bool (!b)),p.2)
 |_=>none
theorem zKQ {σ:St} {H:Hp} {Q:VK} (h:tE K (zEv ma mb) σ H Q):tAndV (tE K ma) (tE K mb) σ H Q:=by
 obtain ⟨B,env,Hk,res,env',R,hm,k⟩:=h
 obtain ⟨⟨x,e1⟩,h1,hm⟩:=oC.mp hm
 refine ⟨B,env,Hk,x,e1,R,h1,fun v Hk1 H1 R1 s1 o1=>?_⟩
 cases x with
 |new c=>cases hm
 |slt i=>cases hm
 |pv p=>cases hm
 |dat d=>
  cases d with
  |bool b=>
   cases o1
   refine ⟨b,rfl,?_⟩
   cases b with
   |true=>exact ⟨B,e1,Hk1,res,env',R1,hm,fun v Hk2 H2 R2 s2 o2=>k v Hk2 H2 R2 (s1.trans s2) o2⟩
   |false=>
    cases hm
    exact k _ Hk1 H1 R1 s1 (.bl false)
  |_=>cases hm
theorem zLK {σ:St} {H:Hp} {Q:VK} (h:tE K (mOrV ma mb) σ H Q):tOrV (tE K ma) (tE K mb) σ H Q:=by
 obtain ⟨B,env,Hk,res,env',R,hm,k⟩:=h
 obtain ⟨⟨x,e1⟩,h1,hm⟩:=oC.mp hm
 refine ⟨B,env,Hk,x,e1,R,h1,fun v Hk1 H1 R1 s1 o1=>?_⟩
 cases x with
 |new c=>cases hm
 |slt i=>cases hm
 |pv p=>cases hm
 |dat d=>
  cases d with
  |bool b=>
   cases o1
   refine ⟨b,rfl,?_⟩
   cases b with
   |false=>exact ⟨B,e1,Hk1,res,env',R1,hm,fun v Hk2 H2 R2 s2 o2=>k v Hk2 H2 R2 (s1.trans s2) o2⟩
   |true=>
    cases hm
    exact k _ Hk1 H1 R1 s1 (.bl true)
  |_=>cases hm
theorem zKm {σ:St} {H:Hp} {Q:VK} (h:tE K (zIK ma) σ H Q):tNotV (tE K ma) σ H Q:=by
 obtain ⟨B,env,Hk,res,env',R,hm,k⟩:=h
 obtain ⟨⟨x,e1⟩,h1,hm⟩:=oC.mp hm
 refine ⟨B,env,Hk,x,e1,R,h1,fun v Hk1 H1 R1 s1 o1=>?_⟩
 cases x with
 |new c=>cases hm
 |slt i=>cases hm
 |pv p=>cases hm
 |dat d=>
  cases d with
  |bool b=>
   cases o1
   cases hm
   exact ⟨b,rfl,k _ Hk1 H1 R1 s1 (.bl _)⟩
  |_=>cases hm
theorem zE7 {op} (h:VE X a ma):VE X (.BoolOp op [a] pos) ma:=pe_one h
theorem zFc (ha:VE X a ma) (hb:VE X (.BoolOp .And (b::rest) pos) mb):VE X (.BoolOp .And (a::b::rest) pos) (zEv ma mb):=(pe_and ha hb).imp fun _ _ _=>zKQ
theorem ve_or (ha:VE X a ma) (hb:VE X (.BoolOp .Or (b::rest) pos) mb):VE X (.BoolOp .Or (a::b::rest) pos) (mOrV ma mb):=(pe_or ha hb).imp fun _ _ _=>zLK
theorem zK3 (ha:VE X a ma):VE X (.UnaryOp .Not a pos) (zIK ma):=(pe_not ha).imp fun _ _ _=>zKm
def mIf (t:MT) (ma mb:ME):ME:=fun env=>(t env).bind fun p=>if p.1=true then ma p.2 else mb p.2
theorem zNm {σ:St} {H:Hp} {Q:VK} (h:tE K (mIf t ma mb) σ H Q):tIf (tT K t) (tE K ma) (tE K mb) σ H Q:=by
 obtain ⟨B,env,Hk,res,env',R,hm,k⟩:=h
 obtain ⟨⟨c,e1⟩,h1,hm⟩:=oC.mp hm
 refine ⟨B,env,Hk,c,e1,R,h1,fun Hk1 H1 R1 s1=>?_⟩
 cases c with
 |true=>exact ⟨B,e1,Hk1,res,env',R1,hm,fun v Hk2 H2 R2 s2 o2=>k v Hk2 H2 R2 (s1.trans s2) o2⟩
 |false=>exact ⟨B,e1,Hk1,res,env',R1,hm,fun v Hk2 H2 R2 s2 o2=>k v Hk2 H2 R2 (s1.trans s2) o2⟩
theorem zJ5 (hc:VT X c t) (ha:VE X a ma) (hb:VE X b mb):VE X (.IfExp c a b pos) (mIf t ma mb):=(pe_ifExp hc ha hb).imp fun _ _ _=>zNm
end
def mNil:MA:=fun env=>some ([],env)
def zAe (m:ME) (ms:MA):MA:=fun env=>(m env).bind fun p=>(ms p.2).map fun q=>(stab p.1::q.1,q.2)
section
variable {X:Cx} {K:oB} {m:ME} {ms:MA} {e:Expr} {es:List Expr} {pos:Pos}
theorem zLM {σ:St} {H:Hp} {Q:List V→Hp→Prop} (h:tA K mNil σ H Q):tNil σ H Q:=by
 obtain ⟨B,env,Hk,rs,env',R,hm,k⟩:=h
 cases hm
 exact k [] Hk H R (.refl _) .nil
theorem zKJ {σ:St} {H:Hp} {Q:List V→Hp→Prop} (h:tA K (zAe m ms) σ H Q):tCons (tE K m) (tA K ms) σ H Q:=by
 obtain ⟨B,env,Hk,rs,env',R,hm,k⟩:=h
 obtain ⟨⟨x,e1⟩,h1,hm⟩:=oC.mp hm
 obtain ⟨⟨xs,e2⟩,h2,hm⟩:=oD.mp hm
 cases hm
 refine ⟨B,env,Hk,x,e1,R,h1,fun v Hk1 H1 R1 s1 o1=>?_⟩
 obtain ⟨Hk1',R1',s1',o1'⟩:=R1.stab o1
 refine ⟨B,e1,Hk1',xs,e2,R1',h2,fun vs Hk2 H2 R2 s2 o2=>?_⟩
 exact k _ Hk2 H2 R2 ((s1.trans s1').trans s2) (.cons (o1'.mono s2) o2)
theorem zAf:VA X [] mNil:=pa_nil.imp fun _ _ _=>zLM
theorem zAb (ha:VE X e m) (hr:VA X es ms) (hs:starEach (e::es) X.env=(false,eval e X.env)::starEach es X.env:=by rfl):VA X (e::es) (zAe m ms):=(pa_cons ha hr hs).imp fun _ _ _=>zKJ
def dats:List Res→Option (List PyData)
 |[]=>some []
 |.dat d::rs=>(dats rs).map (d::·)
 |_::_=>none
theorem RsAll.dats {σ:St} {Hk:Kn}:∀{rs:List Res} {vs:List V} {ds:List PyData},RsAll K σ Hk rs vs→Cm.dats rs=some ds→DvAll K Hk vs ds
 |_,_,_,.nil,h=>by
  cases h
  exact .nil
 |.dat d::rs,_,ds,.cons h1 h2,h=>by
  obtain ⟨ds',e1,e2⟩:=oD.mp h
  subst e2;exact .cons h1 (RsAll.dats h2 e1)
 |.slt i::rs,_,ds,.cons h1 h2,h=>by cases h
 |.new c::rs,_,ds,.cons h1 h2,h=>by cases h
def mLst (ms:MA):ME:=fun env=>(ms env).bind fun p=>(dats p.1).bind fun ds=>if ds.length≤100000 then some (.new (.lst ds),p.2) else none
def mTup (ms:MA):ME:=fun env=>(ms env).bind fun p=>(dats p.1).bind fun ds=>if ds.length≤100000 then some (.dat (.tuple ds),p.2) else none
theorem zFQ {n:Nat} (h:n≤100000):n≤sizeLine:=Nat.le_trans h (by decide)
theorem zLQ {σ:St} {H:Hp} {Q:VK} (h:tE K (mLst ms) σ H Q):tLst (tA K ms) σ H Q:=by
 obtain ⟨B,env,Hk,res,env',R,hm,k⟩:=h
 obtain ⟨⟨rs,e1⟩,h1,hm⟩:=oC.mp hm
 obtain ⟨ds,h2,hm⟩:=oC.mp hm
 by_cases hl:ds.length≤100000
 ·rw [if_pos hl] at hm
  cases hm
  refine ⟨B,env,Hk,rs,e1,R,h1,fun vs Hk1 H1 R1 s1 o1=>?_⟩
  have da:=o1.dats h2
  refine ⟨by rw [da.len];exact zFQ hl,fun p hp=>?_⟩
  obtain ⟨Hk2,R2,s2,o2⟩:=R1.out (r:=.new (.lst ds)) ⟨p,vs,rfl,hp,rfl,da⟩
  exact k _ Hk2 _ R2 (s1.trans s2) o2
 ·rw [if_neg hl] at hm
  cases hm
theorem zLA {σ:St} {H:Hp} {Q:VK} (h:tE K (mTup ms) σ H Q):tTup (tA K ms) σ H Q:=by
 obtain ⟨B,env,Hk,res,env',R,hm,k⟩:=h
 obtain ⟨⟨rs,e1⟩,h1,hm⟩:=oC.mp hm
 obtain ⟨ds,h2,hm⟩:=oC.mp hm
 by_cases hl:ds.length≤100000
 ·rw [if_pos hl] at hm
  cases hm
  refine ⟨B,env,Hk,rs,e1,R,h1,fun vs Hk1 H1 R1 s1 o1=>?_⟩
  have da:=o1.dats h2
  refine ⟨by rw [da.len];exact zFQ hl,fun p hp=>?_⟩
  obtain ⟨Hk2,R2,s2,o2⟩:=R1.out (r:=.dat (.tuple ds)) (.inr ⟨p,vs,ds,rfl,rfl,hp,rfl,da⟩)
  exact k _ Hk2 _ R2 (s1.trans s2) o2
 ·rw [if_neg hl] at hm
  cases hm
theorem zEA (h:VA X es ms):VE X (.List es pos) (mLst ms):=(pe_lst h).imp fun _ _ _=>zLQ
theorem zMI {x1} (h:VA X es ms):VE X (.Tuple es x1 pos) (mTup ms):=(pe_tup h).imp fun _ _ _=>zLA
end
inductive ViewAll (K:oB) (Hk H:Hp):List V→List PyData→Prop
 |nil:ViewAll K Hk H [] []
 |cons {v:V} {vs:List V} {d:PyData} {ds:List PyData}:View K Hk H v d→ViewAll K Hk H vs ds→ViewAll K Hk H (v::vs) (d::ds)
def zCa (env:Sl):List Res→Option (List PyData)
 |[]=>some []
 |r::rs=>(rdv env r).bind fun d=>(zCa env rs).map (d::·)
section
variable {X:Cx} {K:oB} {m:ME} {ms:MA} {e o:Expr} {es:List Expr} {pos:Pos}
theorem Rel.views {B:Fb} {env:Sl} {σ:St} {Hk:Kn} {H:Hp} (R:Rel K B env σ Hk H):∀{rs:List Res} {vs:List V} {ds:List PyData},RsAll K σ Hk rs vs→zCa env rs=some ds→ViewAll K Hk H vs ds
 |_,_,_,.nil,h=>by
  cases h
  exact .nil
 |_,_,ds,.cons h1 h2,h=>by
  obtain ⟨d,e1,h⟩:=oC.mp h
  obtain ⟨ds',e2,e3⟩:=oD.mp h
  subst e3;exact .cons (R.view h1 e1) (Rel.views R h2 e2)
def zEx (K:oB) (r:List V→Hp→VK→Prop) (g:List PyData→Option Res):Prop:=∀(Hk H:Hp) (vs:List V) (ds:List PyData) (res:Res) (Q:VK),Same Hk H→ViewAll K Hk H vs ds→g ds=some res→(∀v H',Out K Hk H res v H'→Q v H')→r vs H Q
def mCB (g:List PyData→Option Res) (ms:MA):ME:=fun env=>(ms env).bind fun p=>(zCa p.2 p.1).bind fun ds=>(g ds).map fun r=>(r,p.2)
theorem zLl {r:List V→Hp→VK→Prop} {g:List PyData→Option Res} (hg:zEx K r g) {σ:St} {H:Hp} {Q:VK} (h:tE K (mCB g ms) σ H Q):tCB r (tA K ms) σ H Q:=by
 obtain ⟨B,env,Hk,res,env',R,hm,k⟩:=h
 obtain ⟨⟨rs,e1⟩,h1,hm⟩:=oC.mp hm
 obtain ⟨ds,h2,hm⟩:=oC.mp hm
 obtain ⟨res',h5,hm⟩:=oD.mp hm
 cases hm
 refine ⟨B,env,Hk,rs,e1,R,h1,fun vs Hk1 H1 R1 s1 o1=>?_⟩
 refine hg Hk1 H1 vs ds res Q R1.ex (R1.views o1 h2) h5 fun z H3 out=>?_;obtain ⟨Hk3,R3,s3,o3⟩:=R1.out out
 exact k z Hk3 H3 R3 (s1.trans s3) o3
theorem zAH {x:Str} {p:Pos} {id:String} {r:List V→Hp→VK→Prop} {g:List PyData→Option Res} (hc:CallR X (.builtin id) r) (hG:zEx X.K r g) (hg:Gl X x) (hm:X.mg x=none) (hv:bootBuiltins x=some (.builtin id)) (ha:VA X (e::es) ms) (hn:x≠"__name__":=by decide) (hdb:(x==("__debug__":Str))=false:=by decide)
  (he:starEach (e::es) X.env=(false,eval e X.env)::starEach es X.env:=by rfl) (hpl:(backTo pos (starEach es X.env)).any (·.1)=false:=by rfl):VE X (.Call (.Name x p) (e::es) [] pos) (mCB g ms):=
 (pe_callB hc hg hm hv ha hn hdb he hpl).imp fun _ _ _=>zLl hG
theorem zB7 {x:Str} {p:Pos} {T:String} {r:List V→Hp→VK→Prop} {g:List PyData→Option Res} (hc:CallR X (.type T) r) (hG:zEx X.K r g) (hg:Gl X x) (hm:X.mg x=none) (hv:bootBuiltins x=some (.type T)) (ha:VA X (e::es) ms) (hn:x≠"__name__":=by decide) (hdb:(x==("__debug__":Str))=false:=by decide)
  (he:starEach (e::es) X.env=(false,eval e X.env)::starEach es X.env:=by rfl) (hpl:(backTo pos (starEach es X.env)).any (·.1)=false:=by rfl):VE X (.Call (.Name x p) (e::es) [] pos) (mCB g ms):=
 (pe_callTy hc hg hm hv ha hn hdb he hpl).imp fun _ _ _=>zLl hG
def tyD:String→PyData→Bool
 |T,.str _=>T=="str"
 |T,.int _=>T=="int"
 |T,.list _=>T=="list"
 |_,_=>false
theorem tyD_V {Hk:Kn} {H:Hp} {T:String} {v:V} {d:PyData} (e:Same Hk H) (h:View K Hk H v d) (t:tyD T d=true):tyV K T v H:=by
 cases d with
 |str x=>rw [h.str];exact (beq_iff_eq.mp t)
 |int x=>rw [h.int];exact (beq_iff_eq.mp t)
 |list ds=>
  obtain ⟨a,vs,rfl,h1,h2⟩:=h.list e
  exact .inl ⟨beq_iff_eq.mp t,vs,SqL.of h1⟩
 |none=>cases t
 |bool b=>cases t
 |tuple b=>cases t
 |dict b=>cases t
def MtD (K:oB) (r:V→List V→Hp→VK→Prop) (g:PyData→List PyData→Option Res):Prop:=∀(Hk H:Hp) (x:V) (vs:List V) (d:PyData) (ds:List PyData) (res:Res) (Q:VK),Same Hk H→View K Hk H x d→ViewAll K Hk H vs ds→g d ds=some res→(∀v H',Out K Hk H res v H'→Q v H')→r x vs H Q
def mBM (T:String) (g:PyData→List PyData→Option Res) (mo:ME) (ms:MA):ME:=fun env=>(mo env).bind fun o=>(rdv o.2 (stab o.1)).bind fun d0=>if tyD T d0=true then (ms o.2).bind fun p=>(rdv p.2 (stab o.1)).bind fun d=>(zCa p.2 p.1).bind fun ds=>(g d ds).map fun r=>(r,p.2) else none
theorem zNu {T:String} {r:V→List V→Hp→VK→Prop} {g:PyData→List PyData→Option Res} (hg:MtD K r g) {σ:St} {H:Hp} {Q:VK} (h:tE K (mBM T g m ms) σ H Q):tBM K T r (tE K m) (tA K ms) σ H Q:=by
 obtain ⟨B,env,Hk,res,env',R,hm,k⟩:=h
 obtain ⟨⟨x,e0⟩,h0,hm⟩:=oC.mp hm
 obtain ⟨d0,g0,hm⟩:=oC.mp hm
 by_cases ht:tyD T d0=true
 ·rw [if_pos ht] at hm
  obtain ⟨⟨rs,e1⟩,h1,hm⟩:=oC.mp hm
  obtain ⟨d,h3,hm⟩:=oC.mp hm
  obtain ⟨ds,h2,hm⟩:=oC.mp hm
  obtain ⟨res',h5,hm⟩:=oD.mp hm
  cases hm
  refine ⟨B,env,Hk,x,e0,R,h0,fun v Hk1 H1 R1 s1 o1=>?_⟩
  obtain ⟨Hk1',R1',s1',o1'⟩:=R1.stab o1
  refine ⟨tyD_V R1'.ex (R1'.view o1' g0) ht,?_⟩
  refine ⟨B,e0,Hk1',rs,e1,R1',h1,fun vs Hk2 H2 R2 s2 o2=>?_⟩
  refine hg Hk2 H2 v vs d ds res Q R2.ex (R2.view (o1'.mono s2) h3) (R2.views o2 h2) h5 fun z H3 out=>?_;obtain ⟨Hk3,R3,s3,o3⟩:=R2.out out
  exact k z Hk3 H3 R3 (((s1.trans s1').trans s2).trans s3) o3
 ·rw [if_neg ht] at hm
  cases hm
end
end Cm
namespace Cm
open PySem L2
inductive Fl where
 |nx
 |bk
 |ct
 |rt (r:Res)
 |ex (C:Str) (fs:List (Str×PyData))
abbrev MS:=Sl→Option (Fl×Sl)
inductive ExFs (K:oB) (Hk:Hp):List (Str×V)→List (Str×PyData)→Prop
 |nil:ExFs K Hk [] []
 |cons {k:Str} {v:V} {d:PyData} {vs:List (Str×V)} {ds:List (Str×PyData)}:Dv K Hk v d→ExFs K Hk vs ds→ExFs K Hk ((k,v)::vs) ((k,d)::ds)
theorem ExFs.mono {K:oB} {Hk Hk':Hp} (e:Same Hk Hk'):∀{vs:List (Str×V)} {ds:List (Str×PyData)},ExFs K Hk vs ds→ExFs K Hk' vs ds
 |_,_,.nil=>.nil
 |_,_,.cons h1 h2=>.cons (zAG e _ _ h1) (ExFs.mono e h2)
def ExOk (K:oB) (Hk H:Hp) (d:Option Addr) (fs:List (Str×PyData)):Prop:=match d with
 |none=>fs=[]
 |some dd=>∃vs,H dd=some (.xd vs)∧ExFs K Hk vs fs
def Fin (K:oB) (B:Fb) (W:WX) (D:Ends) (f:Fl) (env:Sl) (σ:St) (Hk:Kn) (H:Hp):Prop:=match f with
 |.nx=>D.nx σ H
 |.bk=>D.bk σ H
 |.ct=>D.ct σ H
 |.rt r=>∀v,zCG K B env σ Hk H r v→D.rt v H
 |.ex C fs=>∀d,ExOk K Hk H d fs→W (.ref (He.ga K C)) d σ H
def tS (K:oB) (W:WX) (m:MS):TS:=fun D σ H=>∃B env Hk f env',Rel K B env σ Hk H∧m env=some (f,env')∧
 ∀σ' Hk' H',Rel K B env' σ' Hk' H'→KSame Hk Hk'→Fin K B W D f env' σ' Hk' H'
theorem _root_.L2.PS.imp {X:Cx} {e:Stmt} {t t':TS} (h:PS X e t) (k:∀D σ H,t' D σ H→t D σ H):PS X e t':=⟨fun pins s σ H D I q=>h.run pins s σ H D I (k D σ H q)⟩
theorem _root_.L2.PSs.imp {X:Cx} {e:List Stmt} {t t':TS} (h:PSs X e t) (k:∀D σ H,t' D σ H→t D σ H):PSs X e t':=⟨fun pins s σ H D I q=>h.run pins s σ H D I (k D σ H q)⟩
theorem _root_.L2.PI.imp {X:Cx} {tg e:Expr} {t t':TI} (h:PI X tg e t) (k:∀σ H R,t' σ H R→t σ H R):PI X tg e t':=⟨fun pins s σ H R I q=>h.run pins s σ H R I (k σ H R q)⟩
theorem _root_.L2.PG.imp {X:Cx} {e:Expr} {t t':TG} (h:PG X e t) (k:∀v σ H Q,t' v σ H Q→t v σ H Q):PG X e t':=⟨fun pins s σ H v u Q I r q=>h.run pins s σ H v u Q I r (k v σ H Q q)⟩
theorem _root_.L2.PGs.imp {X:Cx} {e:List Expr} {t t':TGs} (h:PGs X e t) (k:∀v σ H Q,t' v σ H Q→t v σ H Q):PGs X e t':=⟨fun pins s σ H v u Q I r q=>h.run pins s σ H v u Q I r (k v σ H Q q)⟩
def VS (X:Cx) (s:Stmt) (m:MS):Prop:=∀W,Takes X W→PS X s (tS X.K W m)
def VSs (X:Cx) (s:List Stmt) (m:MS):Prop:=∀W,Takes X W→PSs X s (tS X.K W m)
theorem VS.imp {X:Cx} {e:Stmt} {m m':MS} (h:VS X e m) (k:∀W D σ H,tS X.K W m' D σ H→tS X.K W m D σ H):VS X e m':=fun W t=>(h W t).imp (k W)
theorem VSs.imp {X:Cx} {e:List Stmt} {m m':MS} (h:VSs X e m) (k:∀W D σ H,tS X.K W m' D σ H→tS X.K W m D σ H):VSs X e m':=fun W t=>(h W t).imp (k W)
def zBF:MS:=fun env=>some (.nx,env)
def mSeq (m n:MS):MS:=fun env=>(m env).bind fun p=>match p.1 with
 |.nx=>n p.2
 |f=>some (f,p.2)
def zEO (m:ME):MS:=fun env=>(m env).map fun p=>(.nx,p.2)
def mIfS (t:MT) (a b:MS):MS:=fun env=>(t env).bind fun p=>if p.1=true then a p.2 else b p.2
def zF2 (i:Nat) (p:Res×Sl):Option Sl:=match p.1 with
 |.dat d=>some (p.2.set i (.val d))
 |.new c=>some (p.2.set i (.own c))
 |.slt j=>(frz (.slt j,p.2)).bind fun q=>match q.1 with
  |.dat d=>some (q.2.set i (.val d))
  |_=>none
 |.pv q=>some (p.2.set i (.pv q))
def mSet (i:Nat) (m:ME):MS:=fun env=>(m env).bind fun p=>(zF2 i p).map fun e=>(.nx,e)
section
variable {X:Cx} {K:oB} {m n:MS} {me:ME} {t:MT} {st:Stmt} {rest as bs:List Stmt} {e c:Expr} {pos:Pos}
theorem zJ9 {W:WX} {D:Ends} {σ:St} {H:Hp} (h:tS K W zBF D σ H):tNext D σ H:=by
 obtain ⟨B,env,Hk,f,env',R,hm,k⟩:=h
 cases hm
 exact k σ Hk H R (.refl _)
theorem zLD {W:WX} {D:Ends} {σ:St} {H:Hp} (h:tS K W (mSeq m n) D σ H):tSeq (tS K W m) (tS K W n) D σ H:=by
 obtain ⟨B,env,Hk,f,env',R,hm,k⟩:=h
 obtain ⟨⟨f1,e1⟩,h1,hm⟩:=oC.mp hm
 refine ⟨B,env,Hk,f1,e1,R,h1,fun σ1 Hk1 H1 R1 s1=>?_⟩
 cases f1 with
 |nx=>exact ⟨B,e1,Hk1,f,env',R1,hm,fun σ2 Hk2 H2 R2 s2=>k σ2 Hk2 H2 R2 (s1.trans s2)⟩
 |bk=>cases hm;exact k σ1 Hk1 H1 R1 s1
 |ct=>cases hm;exact k σ1 Hk1 H1 R1 s1
 |rt r=>cases hm;exact k σ1 Hk1 H1 R1 s1
 |ex C fs=>cases hm;exact k σ1 Hk1 H1 R1 s1
theorem zAU:VSs X [] zBF:=fun W _=>pss_nil.imp fun _ _ _=>zJ9
theorem zAg (h1:VS X st m) (h2:VSs X rest n):VSs X (st::rest) (mSeq m n):=fun W t=>(pss_cons (h1 W t) (h2 W t)).imp fun _ _ _=>zLD
theorem zAk (h1:VS X st m):VSs X [st] m:=fun W t=>pss_one (h1 W t)
theorem zIn {W:WX} {D:Ends} {σ:St} {H:Hp} (h:tS K W (zEO me) D σ H):tDrop (tE K me) D σ H:=by
 obtain ⟨B,env,Hk,f,env',R,hm,k⟩:=h
 obtain ⟨⟨r1,e1⟩,h1,hm⟩:=oD.mp hm
 cases hm
 exact ⟨B,env,Hk,r1,e1,R,h1,fun v Hk1 H1 R1 s1 o1=>k σ Hk1 H1 R1 s1⟩
theorem zEm (he:VE X e me) (hs:swapsWith e none pos.line X.env=pure false:=by rfl):VS X (.Expr e pos) (zEO me):=fun W _=>(ps_expr he hs).imp fun _ _ _=>zIn
theorem zL2 {W:WX} {D:Ends} {σ:St} {H:Hp} (h:tS K W (mIfS t m n) D σ H):tIfS (tT K t) (tS K W m) (tS K W n) D σ H:=by
 obtain ⟨B,env,Hk,f,env',R,hm,k⟩:=h
 obtain ⟨⟨b,e1⟩,h1,hm⟩:=oC.mp hm
 refine ⟨B,env,Hk,b,e1,R,h1,fun Hk1 H1 R1 s1=>?_⟩
 cases b with
 |true=>exact ⟨B,e1,Hk1,f,env',R1,hm,fun σ2 Hk2 H2 R2 s2=>k σ2 Hk2 H2 R2 (s1.trans s2)⟩
 |false=>exact ⟨B,e1,Hk1,f,env',R1,hm,fun σ2 Hk2 H2 R2 s2=>k σ2 Hk2 H2 R2 (s1.trans s2)⟩
theorem zBX (hc:VT X c t) (ha:VSs X as m) (hb:VSs X bs n):VS X (.If c as bs pos) (mIfS t m n):=fun W t=>(ps_if hc (ha W t) (hb W t)).imp fun _ _ _=>zL2
theorem Rel.put {B:Fb} {env env':Sl} {σ:St} {Hk:Kn} {H:Hp} {r:Res} {v:V} {i:Nat} (R:Rel K B env σ Hk H) (o:zCG K B env σ Hk H r v) (h:zF2 i (r,env)=some env'):∃Hk':Kn,KSame Hk Hk'∧Rel K B env' (σ.set i (some v)) Hk' H:=by
 cases r with
 |dat d=>
  cases h
  exact ⟨Hk,.refl _,R.setVal o⟩
 |new c=>
  cases h
  obtain ⟨a,rfl,h1,h2,h3,h5,h4⟩:=o
  exact ⟨Hk,.refl _,R.setOwn h1 h2 h3 h5 h4⟩
 |pv p=>
  cases h
  exact ⟨Hk,.refl _,R.setPv o⟩
 |slt j=>
  obtain ⟨⟨r',e'⟩,h1,h2⟩:=oC.mp h
  obtain ⟨Hk',d,rfl,R',s,z⟩:=R.frz o h1
  cases h2
  exact ⟨Hk',s,R'.setVal z⟩
theorem zI7 {i:Nat} {W:WX} {D:Ends} {σ:St} {H:Hp} (h:tS K W (mSet i me) D σ H):tAsg (tE K me) (gName i) D σ H:=by
 obtain ⟨B,env,Hk,f,env',R,hm,k⟩:=h
 obtain ⟨⟨r1,e1⟩,h1,hm⟩:=oC.mp hm
 obtain ⟨e2,h2,hm⟩:=oD.mp hm
 cases hm
 refine ⟨B,env,Hk,r1,e1,R,h1,fun v Hk1 H1 R1 s1 o1=>?_⟩
 obtain ⟨Hk2,s2,R2⟩:=R1.put o1 h2
 exact k _ Hk2 H1 R2 (s1.trans s2)
theorem zAM {i:Nat} {x:Str} {pos':Pos} (hN:X.N.Nodup) (he:VE X e me) (hi:X.N[i]?=some x:=by rfl) (hx:Loc X.env.scope x:=by first|exact Or.inl rfl|exact Or.inr rfl) (hs:swapsWith e (some (.Name x pos')) pos.line X.env=pure false:=by rfl) (hf:X.fn x=true∨X.env.scope.names.lookup x=some .local:=by first|exact .inl rfl|exact .inr rfl|assumption):
  VS X (.Assign [.Name x pos'] e pos) (mSet i me):=fun W _=>(ps_set hN hi hx he hs hf).imp fun _ _ _=>zI7
end
def Fb.guard (B:Fb) (p:Addr) (o:HO):Fb:=⟨B.K0,upd B.H0 p o,B.A,B.P,B.S⟩
section
variable {K:oB} {B:Fb} {env:Sl} {σ:St} {Hk:Kn} {H:Hp} {p:Addr} {o:HO}
theorem Rel.guard (R:Rel K B env σ Hk H) (h:H p=some o) (hk:Hk p=none) (h0:B.H0 p=none) (hP:∀(n:Nat),Hk.P n≠some p) (hn:∀(j:Nat) s,env[j]?=some s→s.mut→σ[j]?≠some (some (V.ref p))):Rel K (B.guard p o) env σ Hk H where
 ex:=R.ex
 kn:=R.kn
 fr:=fun a h1 h2=>by
  have ne:a≠p:=fun z=>h1 (by rw [z];exact hk)
  show upd B.H0 p o a=none
  rw [upd_ne ne];exact R.fr a h1 h2
 kp:=fun a u h1 h2=>by
  by_cases e:a=p
  ·subst e
   have h1:upd B.H0 a o a=some u:=h1
   rw [upd_same] at h1
   rw [←h1];exact h
  ·have h1:upd B.H0 p o a=some u:=h1
   rw [upd_ne e] at h1
   exact R.kp a u h1 h2
 oin:=R.oin
 o0:=fun a ha=>by
  show upd B.H0 p o a≠none
  by_cases e:a=p
  ·rw [e,upd_same]
   exact fun z=>nomatch z
  ·rw [upd_ne e]
   exact R.o0 a ha
 len:=R.len
 slot:=fun i s hi=>by
  obtain ⟨u,h1,h2⟩:=R.slot i s hi
  refine ⟨u,h1,?_⟩
  cases s with
  |no=>trivial
  |val d=>exact h2
  |scr d=>exact h2
  |pin a=>exact h2
  |pv p=>exact h2
  |sto M=>trivial
  |io k c=>exact h2
  |own c=>
   obtain ⟨a,e1,q1,q2,q3⟩:=h2
   have ne:a≠p:=fun z=>by
    subst e1 z;exact hn i _ hi trivial h1
   refine ⟨a,e1,q1,?_,q3⟩
   show upd B.H0 p o a=none
   rw [upd_ne ne];exact q2
 sep:=R.sep
 sok:=fun M h=>let S:=R.sok M h;⟨S.cel,S.inj,S.top⟩
 pin:=fun n a h=>by
  refine ⟨(R.pin n a h).1,fun z=>?_⟩
  have ne:a≠p:=fun e=>hP n (e ▸ h)
  rcases (R.pin n a h).2 z with q|q
  ·refine .inl ?_
   show upd B.H0 p o a=none
   rw [upd_ne ne];exact q
  ·exact .inr q
 psep:=R.psep
theorem Rel.unguard (R:Rel K (B.guard p o) env σ Hk H) (h0:B.H0 p=none) (hK:B.K0 p=none) (hO:¬B.io p):Rel K B env σ Hk H∧H p=some o∧Hk p=none∧(∀(n:Nat),Hk.P n≠some p)∧∀(j:Nat) s,env[j]?=some s→s.mut→σ[j]?≠some (some (V.ref p)):=by
 have hp:H p=some o:=R.kp p o (show upd B.H0 p o p=some o from upd_same) hO
 have hk:Hk p=none:=by
  cases q:Hk p with
  |none=>rfl
  |some u=>
   have z:=R.fr p (zAO q) hK
   rw [show (B.guard p o).H0 p=some o from upd_same] at z
   cases z
 have back:∀a,(B.guard p o).H0 a=none→a≠p∧B.H0 a=none:=fun a z=>by
  have z:upd B.H0 p o a=none:=z
  by_cases e:a=p
  ·rw [e,upd_same] at z
   cases z
  ·rw [upd_ne e] at z
   exact ⟨e,z⟩
 have hPp:∀(n:Nat),Hk.P n≠some p:=fun n e=>by
  rcases (R.pin n p e).2 hk with q|q
  ·exact (back p q).1 rfl
  ·exact hO q
 refine ⟨⟨R.ex,R.kn,fun a h1 h2=>(back a (R.fr a h1 h2)).2,fun a u h1 h2=>?_,R.oin,fun a ha z=>?_,R.len,fun i s hi=>?_,R.sep,fun M h=>let S:=R.sok M h;⟨S.cel,S.inj,S.top⟩,fun n a h=>⟨(R.pin n a h).1,fun z=>((R.pin n a h).2 z).imp (fun q=>(back a q).2) id⟩,R.psep⟩,hp,hk,hPp,fun j s hj hm z=>?_⟩
 ·have ne:a≠p:=fun e=>by rw [e,h0] at h1;cases h1
  exact R.kp a u (by show upd B.H0 p o a=some u;rw [upd_ne ne];exact h1) h2
 ·have ne:a≠p:=fun e=>hO (by rw [←e];exact ha)
  exact R.o0 a ha (by show upd B.H0 p o a=none;rw [upd_ne ne];exact z)
 ·obtain ⟨u,h1,h2⟩:=R.slot i s hi
  refine ⟨u,h1,?_⟩
  cases s with
  |no=>trivial
  |val d=>exact h2
  |scr d=>exact h2
  |pin a=>exact h2
  |pv p=>exact h2
  |sto M=>trivial
  |io k c=>exact h2
  |own c=>
   obtain ⟨a,e1,q1,q2,q3⟩:=h2
   exact ⟨a,e1,q1,(back a q2).2,q3⟩
 ·obtain ⟨u,h1,h2⟩:=R.slot j s hj
  rw [z] at h1
  cases h1
  cases s with
  |no=>cases hm
  |val d=>cases hm
  |scr d=>cases hm
  |pin a=>cases hm
  |pv p=>cases hm
  |sto M=>cases hm
  |io k c=>
   obtain ⟨a,e1,q1,q2,q3⟩:=h2
   cases e1
   exact hO (.inl ⟨k,q2⟩)
  |own c=>
   obtain ⟨a,e1,q1,q2,q3⟩:=h2
   cases e1
   exact (back _ q2).1 rfl
theorem Rel.other (R:Rel K B env σ Hk H) {u:HO} (hk:Hk p=none) (h0:B.H0 p=none) (hP:∀(n:Nat),Hk.P n≠some p) (hx:∀x,H p≠some (.own x)) (hn:∀(j:Nat) s,env[j]?=some s→s.mut→σ[j]?≠some (some (V.ref p))):Rel K B env σ Hk (upd H p u) where
 ex:=fun b x e=>by
  have ne:b≠p:=fun z=>by rw [z,hk] at e;cases e
  rw [upd_ne ne];exact R.ex _ _ e
 kn:=R.kn
 fr:=R.fr
 kp:=fun a x h1 h2=>by
  have ne:a≠p:=fun z=>by rw [z,h0] at h1;cases h1
  rw [upd_ne ne];exact R.kp a x h1 h2
 oin:=fun a ha=>by
  refine ⟨?_,(R.oin a ha).2⟩
  by_cases e:a=p
  ·rw [e,upd_same]
   exact fun z=>nomatch z
  ·rw [upd_ne e]
   exact (R.oin a ha).1
 o0:=R.o0
 len:=R.len
 slot:=fun i s hi=>by
  obtain ⟨x,h1,h2⟩:=R.slot i s hi
  refine ⟨x,h1,?_⟩
  cases s with
  |no=>trivial
  |val d=>exact h2
  |scr d=>exact h2
  |pin a=>exact h2
  |pv p=>exact h2
  |sto M=>trivial
  |own c=>
   obtain ⟨a,e1,q1,q2,q3⟩:=h2
   have ne:a≠p:=fun z=>by
    subst e1 z;exact hn i _ hi trivial h1
   exact ⟨a,e1,q1,q2,q3.mono (.refl _) fun o z=>by rw [upd_ne ne];exact z⟩
  |io k c=>
   obtain ⟨a,e1,q1,q2,q3⟩:=h2
   have ne:a≠p:=fun z=>by
    subst e1 z;exact hn i _ hi trivial h1
   exact ⟨a,e1,q1,q2,q3.mono (.refl _) fun o z=>by rw [upd_ne ne];exact z⟩
 sep:=R.sep
 sok:=fun M h=>(R.sok M h).mono (.refl _) rfl (fun _ _ _ z=>z) (fun b o ⟨n,hb⟩ z=>by
  have ne:b≠p:=fun e=>hP n (e ▸ hb)
  rw [upd_ne ne];exact z) fun dx b z=>by
  have ne:dx≠p:=fun e=>hx b (e ▸ z)
  rw [upd_ne ne];exact z
 pin:=fun n b h=>by
  have ne:b≠p:=fun e=>hP n (e ▸ h)
  rw [upd_ne ne];exact R.pin n b h
 psep:=R.psep
theorem Rel.free0 (R:Rel K B env σ Hk H) (h:Hk p=none):B.K0 p=none:=R.kn.free h
theorem Rel.nO (R:Rel K B env σ Hk H) (h:B.H0 p=none):¬B.io p:=fun z=>R.o0 p z h
theorem Rel.wait (R:Rel K B env σ Hk H) {r:Res} {v:V} (o:zCG K B env σ Hk H r v):
  ∃B',Rel K B' env σ Hk H∧∀{env':Sl} {Hk':Kn} {H':Hp},Rel K B' env' σ Hk' H'→KSame Hk Hk'→Rel K B env' σ Hk' H'∧zCG K B env' σ Hk' H' r v∧
   ∀{r':Res} {v':V},zCG K B' env' σ Hk' H' r' v'→zCG K B env' σ Hk' H' r' v'∧∀c c' a,r=.new c→r'=.new c'→v=.ref a→v'≠.ref a:=by
 have triv:∀{env':Sl} {Hk':Kn} {H':Hp} {r':Res} {v':V},(∀c,r≠.new c)→zCG K B env' σ Hk' H' r' v'→zCG K B env' σ Hk' H' r' v'∧∀c c' a,r=.new c→r'=.new c'→v=.ref a→v'≠.ref a:=fun hr o'=>⟨o',fun c c' a e=>absurd e (hr c)⟩
 cases r with
 |dat d=>exact ⟨B,R,fun R' s=>⟨R',zAG s d v o,triv fun c z=>by cases z⟩⟩
 |slt i=>exact ⟨B,R,fun R' s=>⟨R',o,triv fun c z=>by cases z⟩⟩
 |pv p=>exact ⟨B,R,fun R' s=>⟨R',PvOk.mono s o,triv fun c z=>by cases z⟩⟩
 |new c=>
  obtain ⟨a,rfl,h1,h2,h3,h5,h4⟩:=o
  obtain ⟨u,hu⟩:=h3.there
  refine ⟨B.guard a u,R.guard hu h1 h2 h5 h4,fun {env' Hk' H'} R' s=>?_⟩
  obtain ⟨R2,q1,q2,q4,q3⟩:=R'.unguard h2 (R.free0 h1) (R.nO h2)
  refine ⟨R2,⟨a,rfl,q2,h2,h3.mono s fun o z=>by rw [hu] at z;rw [←z];exact q1,q4,q3⟩,fun {r' v'} o'=>?_⟩
  cases r' with
  |dat d=>exact ⟨o',fun c c' b _ e=>by cases e⟩
  |slt i=>exact ⟨o',fun c c' b _ e=>by cases e⟩
  |pv p=>exact ⟨o',fun c c' b _ e=>by cases e⟩
  |new c'=>
   obtain ⟨b,rfl,g1,g2,g3,g5,g4⟩:=o'
   have g2:upd B.H0 a u b=none:=g2
   have ne:b≠a:=fun e=>by rw [e,upd_same] at g2;cases g2
   rw [upd_ne ne] at g2
   refine ⟨⟨b,rfl,g1,g2,g3,g5,g4⟩,fun _ _ x _ _ e1 e2=>?_⟩
   cases e1
   exact ne (V.ref.inj e2)
end
end Cm
namespace Cm
open PySem L2
def frzS:Res×Sl→Option (Res×Sl)
 |(.slt i,e)=>frz (.slt i,e)
 |p=>some p
def zM1 (m:ME):ME:=fun env=>(m env).bind frzS
def zKR (r:Res) (v:V) (a:Addr):Prop:=(∃c,r=.new c)∧v=.ref a
inductive RuAll (K:oB) (B:Fb) (env:Sl) (σ:St) (Hk:Kn) (H:Hp):List Res→List V→Prop
 |nil:RuAll K B env σ Hk H [] []
 |cons {r:Res} {v:V} {rs:List Res} {vs:List V}:zCG K B env σ Hk H r v→(∀i,r≠.slt i)→RuAll K B env σ Hk H rs vs→(∀a,zKR r v a→∀(j:Nat) r' v',rs[j]?=some r'→vs[j]?=some v'→¬zKR r' v' a)→RuAll K B env σ Hk H (r::rs) (v::vs)
def tAU (K:oB) (m:MA):TA:=fun σ H Q=>∃B env Hk rs env',Rel K B env σ Hk H∧m env=some (rs,env')∧
 ∀vs Hk' H',Rel K B env' σ Hk' H'→KSame Hk Hk'→RuAll K B env' σ Hk' H' rs vs→Q vs H'
abbrev VAU (X:Cx) (es:List Expr) (m:MA):Prop:=PA X es (tAU X.K m)
def zF4 (m:ME) (ms:MA):MA:=fun env=>(zM1 m env).bind fun p=>(ms p.2).map fun q=>(p.1::q.1,q.2)
section
variable {X:Cx} {K:oB} {m:ME} {ms:MA} {e:Expr} {es:List Expr} {pos:Pos}
theorem Rel.frzS {B:Fb} {env env':Sl} {σ:St} {Hk:Kn} {H:Hp} {r r':Res} {v:V} (R:Rel K B env σ Hk H) (o:zCG K B env σ Hk H r v) (h:Cm.frzS (r,env)=some (r',env')):
  ∃Hk':Kn,Rel K B env' σ Hk' H∧KSame Hk Hk'∧zCG K B env' σ Hk' H r' v∧∀i,r'≠.slt i:=by
 cases r with
 |dat d=>
  cases h
  exact ⟨Hk,R,.refl _,o,fun i z=>by cases z⟩
 |new c=>
  cases h
  exact ⟨Hk,R,.refl _,o,fun i z=>by cases z⟩
 |pv p=>
  cases h
  exact ⟨Hk,R,.refl _,o,fun i z=>by cases z⟩
 |slt i=>
  obtain ⟨Hk',d,rfl,R',s,z⟩:=R.frz o h
  exact ⟨Hk',R',s,z,fun i z=>by cases z⟩
theorem RuAll.back {B B':Fb} {env':Sl} {σ:St} {Hk':Kn} {H':Hp} (f:∀{r':Res} {v':V},zCG K B' env' σ Hk' H' r' v'→zCG K B env' σ Hk' H' r' v'):∀{rs:List Res} {vs:List V},RuAll K B' env' σ Hk' H' rs vs→RuAll K B env' σ Hk' H' rs vs
 |_,_,.nil=>.nil
 |_,_,.cons h1 h2 h3 h4=>.cons (f h1) h2 (RuAll.back f h3) h4
theorem RuAll.get {B:Fb} {env:Sl} {σ:St} {Hk:Kn} {H:Hp}:∀{rs:List Res} {vs:List V},RuAll K B env σ Hk H rs vs→∀(j:Nat) r v,rs[j]?=some r→vs[j]?=some v→zCG K B env σ Hk H r v
 |_,_,.nil,j,r,v,h,_=>by simp at h
 |_,_,.cons h1 _ _ _,0,r,v,h,h'=>by
  simp at h h'
  subst h h'
  exact h1
 |_,_,.cons _ _ h3 _,j+1,r,v,h,h'=>RuAll.get h3 j r v (by simpa using h) (by simpa using h')
theorem zKn {σ:St} {H:Hp} {Q:List V→Hp→Prop} (h:tAU K mNil σ H Q):tNil σ H Q:=by
 obtain ⟨B,env,Hk,rs,env',R,hm,k⟩:=h
 cases hm
 exact k [] Hk H R (.refl _) .nil
theorem zJM {σ:St} {H:Hp} {Q:List V→Hp→Prop} (h:tAU K (zF4 m ms) σ H Q):tCons (tE K m) (tAU K ms) σ H Q:=by
 obtain ⟨B,env,Hk,rs,env',R,hm,k⟩:=h
 obtain ⟨⟨x,e1⟩,h1,hm⟩:=oC.mp hm
 obtain ⟨⟨x0,e0⟩,h0,h1⟩:=oC.mp h1
 obtain ⟨⟨xs,e2⟩,h2,hm⟩:=oD.mp hm
 cases hm
 refine ⟨B,env,Hk,x0,e0,R,h0,fun v Hk1 H1 R1 s1 o1=>?_⟩
 obtain ⟨Hk1',R1',s1',o1',n1⟩:=R1.frzS o1 h1
 obtain ⟨B',R2,back⟩:=R1'.wait o1'
 refine ⟨B',e1,Hk1',xs,e2,R2,h2,fun vs Hk2 H2 R3 s2 o2=>?_⟩
 obtain ⟨R4,o4,b4⟩:=back R3 s2
 refine k _ Hk2 H2 R4 ((s1.trans s1').trans s2) (.cons o4 n1 (o2.back fun o=>(b4 o).1) fun a hna j r' v' hj hj' hnb=>?_)
 obtain ⟨⟨c,rfl⟩,rfl⟩:=hna
 obtain ⟨⟨c',rfl⟩,rfl⟩:=hnb
 exact (b4 (o2.get j _ _ hj hj')).2 c c' a rfl rfl rfl rfl
theorem zLz:VAU X [] mNil:=pa_nil.imp fun _ _ _=>zKn
theorem zH9 (ha:VE X e m) (hr:VAU X es ms) (hs:starEach (e::es) X.env=(false,eval e X.env)::starEach es X.env:=by rfl):VAU X (e::es) (zF4 m ms):=(pa_cons ha hr hs).imp fun _ _ _=>zJM
end
def zEq:List Nat→List Res→Sl→Option Sl
 |[],[],e=>some e
 |i::is,r::rs,e=>(zF2 i (r,e)).bind (zEq is rs)
 |_,_,_=>none
def zK5:St→List Nat→List V→St
 |σ,i::is,v::vs=>zK5 (σ.set i (some v)) is vs
 |σ,_,_=>σ
def zJp (is:List Nat) (ms:MA):MS:=fun env=>(ms env).bind fun p=>(zEq is p.1 p.2).map fun e=>(.nx,e)
section
variable {X:Cx} {K:oB} {ms:MA} {e:Expr} {es:List Expr} {pos:Pos}
theorem RuAll.put {B:Fb} {env env':Sl} {σ:St} {Hk:Kn} {H:Hp} {i:Nat} {r:Res} {v:V} (o:zCG K B env σ Hk H r v) (n:∀i,r≠.slt i) (h:zF2 i (r,env)=some env'):
  ∀{rs:List Res} {vs:List V},RuAll K B env σ Hk H rs vs→(∀a,zKR r v a→∀(j:Nat) r' v',rs[j]?=some r'→vs[j]?=some v'→¬zKR r' v' a)→RuAll K B env' (σ.set i (some v)) Hk H rs vs
 |_,_,.nil,_=>.nil
 |r'::rs,v'::vs,.cons h1 h2 h3 h4,hn=>by
  refine .cons ?_ h2 (RuAll.put o n h h3 fun a ha j r2 v2 e1 e2=>hn a ha (j+1) r2 v2 (by simpa using e1) (by simpa using e2)) h4
  cases r' with
  |dat d=>exact h1
  |pv p=>exact h1
  |slt j=>exact absurd rfl (h2 j)
  |new c=>
   obtain ⟨a,rfl,q1,q2,q3,q5,q4⟩:=h1
   refine ⟨a,rfl,q1,q2,q3,q5,fun j s hj hm z=>?_⟩
   cases r with
   |slt j=>exact absurd rfl (n j)
   |pv p=>
    cases h
    rcases zAv hj with ⟨rfl,rfl⟩|⟨ne,hj⟩
    ·cases hm
    ·rw [oH (fun z=>ne z.symm)] at z
     exact q4 j s hj hm z
   |dat d=>
    cases h
    rcases zAv hj with ⟨rfl,rfl⟩|⟨ne,hj⟩
    ·cases hm
    ·rw [oH (fun z=>ne z.symm)] at z
     exact q4 j s hj hm z
   |new c2=>
    cases h
    obtain ⟨b,rfl,_⟩:=o
    rcases zAv hj with ⟨rfl,rfl⟩|⟨ne,hj⟩
    ·rcases zAv z with ⟨_,e⟩|⟨z2,_⟩
     ·cases e
      exact hn a ⟨⟨c2,rfl⟩,rfl⟩ 0 _ _ rfl rfl ⟨⟨c,rfl⟩,rfl⟩
     ·exact absurd rfl z2
    ·rw [oH (fun z=>ne z.symm)] at z
     exact q4 j s hj hm z
theorem Rel.puts {B:Fb}:∀{is:List Nat} {rs:List Res} {vs:List V} {env env':Sl} {σ:St} {Hk:Kn} {H:Hp},Rel K B env σ Hk H→RuAll K B env σ Hk H rs vs→zEq is rs env=some env'→Rel K B env' (zK5 σ is vs) Hk H∧is.length=vs.length
 |[],[],_,env,env',σ,Hk,H,R,.nil,h=>by
  cases h
  exact ⟨R,rfl⟩
 |i::is,r::rs,_,env,env',σ,Hk,H,R,.cons (v:=v) (vs:=vs) h1 h2 h3 h4,h=>by
  obtain ⟨e1,g1,g2⟩:=oC.mp h
  have R1:Rel K B e1 (σ.set i (some v)) Hk H:=by
   cases r with
   |slt j=>exact absurd rfl (h2 j)
   |dat d=>
    cases g1
    exact R.setVal h1
   |pv p=>
    cases g1
    exact R.setPv h1
   |new c=>
    cases g1
    obtain ⟨a,rfl,q1,q2,q3,q5,q4⟩:=h1
    exact R.setOwn q1 q2 q3 q5 q4
  obtain ⟨R2,l⟩:=Rel.puts R1 (RuAll.put h1 h2 g1 h3 h4) g2
  exact ⟨R2,by simp [l]⟩
 |[],_::_,_,env,env',σ,Hk,H,R,_,h=>by cases h
 |_::_,[],_,env,env',σ,Hk,H,R,_,h=>by cases h
theorem zLI {i j:Nat} {W:WX} {D:Ends} {σ:St} {H:Hp} (h:tS K W (zJp [i,j] ms) D σ H):tPar i j (tAU K ms) D σ H:=by
 obtain ⟨B,env,Hk,f,env',R,hm,k⟩:=h
 obtain ⟨⟨rs,e1⟩,h1,hm⟩:=oC.mp hm
 obtain ⟨e2,h2,hm⟩:=oD.mp hm
 cases hm
 refine ⟨B,env,Hk,rs,e1,R,h1,fun vs Hk1 H1 R1 s1 o1=>?_⟩
 obtain ⟨R2,l⟩:=R1.puts o1 h2
 match vs,l with
 |[v,w],_=>exact ⟨v,w,rfl,k _ Hk1 H1 R2 s1⟩
theorem zME {i j:Nat} {x y:Str} {a b:Expr} {px py pt:Pos} {kt k2 pt2} (hN:X.N.Nodup) (ha:VAU X [a,b] ms) (hc:X.calm=true:=by rfl) (hi:X.N[i]?=some x:=by rfl) (hj:X.N[j]?=some y:=by rfl) (hij:i≠j:=by decide)
  (hx:X.env.scope.names.lookup x=some .local:=by rfl) (hy:X.env.scope.names.lookup y=some .local:=by rfl)
  (hw:swappedStores [.Tuple [.Name x px,.Name y py] kt pt] (.Tuple [a,b] k2 pt2) X.env=pure (some [x,y]):=by rfl)
  (hs:swapsWithSole [.Tuple [.Name x px,.Name y py] kt pt] (.Tuple [a,b] k2 pt2) pos.line X.env=pure false:=by rfl):
  VS X (.Assign [.Tuple [.Name x px,.Name y py] kt pt] (.Tuple [a,b] k2 pt2) pos) (zJp [i,j] ms):=fun W _=>(ps_par hc hN hi hj hij hx hy ha hw hs).imp fun _ _ _=>zLI
end
abbrev MG:=PyData→Sl→Option Sl
def tG (K:oB) (js:List Nat) (mg:MG):TG:=fun v σ H Q=>∃B env Hk d env',Rel K B env σ Hk H∧Dv K Hk v d∧mg d env=some env'∧
 ∀σ' Hk' H',Rel K B env' σ' Hk' H'→KSame Hk Hk'→(∀i,i ∉ js→σ'[i]?=σ[i]?)→σ'.length=σ.length→Q σ' H'
def zAi (j:Nat):MG:=fun d env=>some (env.set j (.val d))
abbrev VG (X:Cx) (e:Expr) (js:List Nat) (mg:MG):Prop:=PG X e (tG X.K js mg)
abbrev MGs:=List PyData→Sl→Option Sl
def tGs (K:oB) (js:List Nat) (mg:MGs):TGs:=fun vs σ H Q=>∃B env Hk ds env',Rel K B env σ Hk H∧DvAll K Hk vs ds∧mg ds env=some env'∧
 ∀σ' Hk' H',Rel K B env' σ' Hk' H'→KSame Hk Hk'→(∀i,i ∉ js→σ'[i]?=σ[i]?)→σ'.length=σ.length→Q σ' H'
def zCA:MGs:=fun ds env=>match ds with
 |[]=>some env
 |_=>none
def zAz (g:MG) (gs:MGs):MGs:=fun ds env=>match ds with
 |d::ds=>(g d env).bind (gs ds)
 |_=>none
def zCN (gs:MGs):MG:=fun d env=>match d with
 |.tuple ds=>gs ds env
 |_=>none
section
variable {X:Cx} {K:oB} {js is:List Nat} {g:MG} {gs:MGs} {pos:Pos}
theorem zJA {j:Nat} {v:V} {σ:St} {H:Hp} {Q:St→Hp→Prop} (h:tG K [j] (zAi j) v σ H Q):gName j v σ H Q:=by
 obtain ⟨B,env,Hk,d,env',R,hd,hm,k⟩:=h
 cases hm
 exact k _ _ _ (R.setVal hd) (.refl _) (fun i hi=>oH (fun z=>hi (by simp [z]))) (oK)
theorem zAo {j:Nat} {x:Str} (hN:X.N.Nodup) (hi:X.N[j]?=some x:=by rfl) (hx:Loc X.env.scope x:=by first|exact Or.inl rfl|exact Or.inr rfl) (hf:X.fn x=true∨X.env.scope.names.lookup x=some .local:=by first|exact .inl rfl|exact .inr rfl|assumption):VG X (.Name x pos) [j] (zAi j):=
 (pg_name hN hi hx hf).imp fun _ _ _ _=>zJA
theorem zKC {vs:List V} {σ:St} {H:Hp} {Q:St→Hp→Prop} (h:tGs K [] zCA vs σ H Q):gNil vs σ H Q:=by
 obtain ⟨B,env,Hk,ds,env',R,hd,hm,k⟩:=h
 cases hd with
 |nil=>
  cases hm
  exact ⟨rfl,k σ _ _ R (.refl _) (fun _ _=>rfl) rfl⟩
 |cons _ _=>cases hm
theorem zJB {vs:List V} {σ:St} {H:Hp} {Q:St→Hp→Prop} (h:tGs K (js++is) (zAz g gs) vs σ H Q):gCons (tG K js g) (tGs K is gs) vs σ H Q:=by
 obtain ⟨B,env,Hk,ds,env',R,hd,hm,k⟩:=h
 cases hd with
 |nil=>cases hm
 |cons h1 h2=>
  obtain ⟨e1,g1,g2⟩:=oC.mp hm
  refine ⟨_,_,rfl,B,env,Hk,_,e1,R,h1,g1,fun σ1 Hk1 H1 R1 s1 d1 l1=>?_⟩
  refine ⟨B,e1,Hk1,_,env',R1,zB5 s1 _ _ h2,g2,fun σ2 Hk2 H2 R2 s2 d2 l2=>?_⟩
  refine k σ2 Hk2 H2 R2 (s1.trans s2) (fun i hi=>?_) (l2.trans l1)
  rw [d2 i (fun z=>hi (List.mem_append_right _ z)),d1 i (fun z=>hi (List.mem_append_left _ z))]
theorem zCK:PGs X [] (tGs X.K [] zCA):=pgs_nil.imp fun _ _ _ _=>zKC
theorem zAE {e:Expr} {es:List Expr} (h1:VG X e js g) (h2:PGs X es (tGs X.K is gs)) (hs:(assignEach (e::es) X.env).map (·.2)=assign e X.env::(assignEach es X.env).map (·.2):=by rfl):PGs X (e::es) (tGs X.K (js++is) (zAz g gs)):=
 (pgs_cons h1 h2 hs).imp fun _ _ _ _=>zJB
theorem zKz {n:Nat} (hl:∀ds env env',gs ds env=some env'→ds.length=n) {v:V} {σ:St} {H:Hp} {Q:St→Hp→Prop} (h:tG K js (zCN gs) v σ H Q):gTup K n (tGs K js gs) v σ H Q:=by
 obtain ⟨B,env,Hk,d,env',R,hd,hm,k⟩:=h
 cases d with
 |tuple ds=>
  cases hd with
  |tup h1 h2=>exact ⟨_,_,rfl,zAV R.ex h1,by rw [h2.len];exact hl _ _ _ hm,B,env,Hk,ds,env',R,h2,hm,k⟩
 |_=>cases hm
theorem zBo:∀ds env env',zCA ds env=some env'→ds.length=0:=fun ds env env' h=>by
 cases ds with
 |nil=>rfl
 |cons _ _=>cases h
theorem zAp {n:Nat} (hl:∀ds env env',gs ds env=some env'→ds.length=n):∀ds env env',zAz g gs ds env=some env'→ds.length=n+1:=fun ds env env' h=>by
 cases ds with
 |nil=>cases h
 |cons d ds=>
  obtain ⟨e1,g1,g2⟩:=oC.mp h
  rw [OC,hl _ _ _ g2]
theorem zDV {es:List Expr} {kk n:Nat} (h:PGs X es (tGs X.K js gs)) (hl:∀ds env env',gs ds env=some env'→ds.length=n) (hc:X.calm=true:=by rfl) (hn:(assignEach es X.env).length=n:=by rfl) (hst:(assignEach es X.env).findIdx? (·.1)=none:=by rfl):VG X (.Tuple es kk pos) js (zCN gs):=
 (pg_tup hc h hn hst).imp fun _ _ _ _=>zKz hl
end
def zGg (K:oB) (Hk0:Hp) (J:It) (ds:List PyData):Prop:=∀(Hk H:Hp),Same Hk0 Hk→Same Hk H→∀i,(∀d,ds[i]?=some d→J.go i H∧∀x H',J.yld i H x H'→Out K Hk H (.dat d) x H')∧(ds.length≤i→J.stop i H)
abbrev MI:=Sl→Option (List PyData×Sl)
def tI (K:oB) (m:MI):TI:=fun σ H R=>∃B env Hk ds env',Rel K B env σ Hk H∧m env=some (ds,env')∧
 ∀J Hk' H',Rel K B env' σ Hk' H'→KSame Hk Hk'→zGg K Hk' J ds→R J H'
abbrev VI (X:Cx) (tg e:Expr) (m:MI):Prop:=PI X tg e (tI X.K m)
def forL (g:MG) (b:MS):List PyData→Sl→Option (Fl×Sl)
 |[],e=>some (.nx,e)
 |d::ds,e=>(g d e).bind fun e1=>(b e1).bind fun q=>match q.1 with
  |.nx=>forL g b ds q.2
  |.ct=>forL g b ds q.2
  |.bk=>some (.nx,q.2)
  |.rt r=>some (.rt r,q.2)
  |.ex C fs=>some (.ex C fs,q.2)
def mFor (mi:MI) (g:MG) (b:MS):MS:=fun env=>(mi env).bind fun p=>forL g b p.1 p.2
section
variable {X:Cx} {K:oB} {js:List Nat} {g:MG} {b:MS} {mi:MI} {pos:Pos}
theorem zHl {α:Type} {l:List α} {i:Nat} {d:α} {r:List α} (h:l.drop i=d::r):l[i]?=some d∧l.drop (i+1)=r∧i<l.length:=by
 have h1:l[i]?=some d:=by
  rw [←List.head?_drop,h];rfl
 refine ⟨h1,?_,(oE.mp h1).1⟩
 rw [←List.drop_drop,h];rfl
theorem zL7 {W:WX} {D:Ends} {σ:St} {H:Hp} (h:tS K W (mFor mi g b) D σ H):tFor (tI K mi) (tG K js g) (tS K W b) D σ H:=by
 obtain ⟨B,env,Hk,f,env',R,hm,k⟩:=h
 obtain ⟨⟨ds,e1⟩,h1,hm⟩:=oC.mp hm
 refine ⟨B,env,Hk,ds,e1,R,h1,fun J Hk1 H1 R1 s1 it=>?_⟩
 refine ⟨fun i m σ H=>m=ds.length - i∧∃e,∃Hk2:Kn,Rel K B e σ Hk2 H∧KSame Hk1 Hk2∧forL g b (ds.drop i) e=some (f,env'),⟨ds.length,by simp,e1,Hk1,R1,.refl _,hm⟩,?_⟩
 rintro i m σ2 H2 ⟨rfl,e,Hk2,R2,s2,hf⟩
 obtain ⟨go,stop⟩:=it Hk2 H2 s2.s R2.ex i
 cases hd:ds.drop i with
 |nil=>
  rw [hd] at hf
  cases hf
  have hl:ds.length≤i:=List.drop_eq_nil_iff.mp hd
  exact .inl ⟨stop hl,k σ2 Hk2 H2 R2 (s1.trans s2)⟩
 |cons d r=>
  rw [hd] at hf
  obtain ⟨hi,hr,hlt⟩:=zHl hd
  obtain ⟨gi,yi⟩:=go d hi
  obtain ⟨e2,g1,hf⟩:=oC.mp hf
  obtain ⟨⟨f1,e3⟩,g2,hf⟩:=oC.mp hf
  refine .inr ⟨gi,fun σ' H'=>∃e,∃Hk2:Kn,Rel K B e σ' Hk2 H'∧KSame Hk1 Hk2∧forL g b (ds.drop (i+1)) e=some (f,env'),fun σ' H' w=>⟨ds.length - (i+1),by omega,rfl,w⟩,fun x H' y=>?_⟩
  obtain ⟨Hk3,R3,s3,o3⟩:=R2.out (yi x H' y)
  refine ⟨B,e,Hk3,d,e2,R3,o3,g1,fun σ3 Hk4 H4 R4 s4 _ _=>?_⟩
  refine ⟨B,e2,Hk4,f1,e3,R4,g2,fun σ4 Hk5 H5 R5 s5=>?_⟩
  have sm:=((s2.trans s3).trans s4).trans s5
  cases f1 with
  |nx=>
   refine ⟨e3,Hk5,R5,sm,?_⟩
   rw [hr];exact hf
  |ct=>
   refine ⟨e3,Hk5,R5,sm,?_⟩
   rw [hr];exact hf
  |bk=>
   cases hf
   exact k σ4 Hk5 H5 R5 (s1.trans sm)
  |rt r=>
   cases hf
   exact k σ4 Hk5 H5 R5 (s1.trans sm)
  |ex C fs=>
   cases hf
   exact k σ4 Hk5 H5 R5 (s1.trans sm)
theorem zC0 {tg iter:Expr} {body:List Stmt} (hp:PassesOwn (model X.prog X.w) X.A X.env X.xe) (hi:VI X tg iter mi) (hg:VG X tg js g) (hb:VSs X body b) (hc:X.calm=true:=by rfl)
  (hs:∀x,foldedSetIterable iter X.env x=pure x:=by intro _;rfl):VS X (.For tg iter body [] pos) (mFor mi g b):=fun W t=>(ps_for hp hc hi hg (hb W t) hs).imp fun _ _ _=>zL7
end
section
variable {X:Cx} {K:oB} {t:MT} {b:MS} {pos:Pos}
end
end Cm
namespace Cm
open PySem L2
def zAA (env:Sl):List Nat→Sl
 |[]=>env
 |v::vs=>(zAA env vs).set v .no
def lcL (g:MG) (t:MT) (me:ME) (vs:List Nat):List PyData→Sl→List PyData→Option (List PyData×Sl)
 |[],e,acc=>some (acc,e)
 |d::ds,e,acc=>(g d e).bind fun e1=>(t e1).bind fun p=>if p.1=true then (mFrz me p.2).bind fun q=>match q.1 with
  |.dat x=>lcL g t me vs ds (zAA q.2 vs) (acc++[x])
  |_=>none else lcL g t me vs ds (zAA p.2 vs) acc
def mLc (mi:MI) (g:MG) (t:MT) (me:ME) (vs:List Nat):ME:=fun env=>(mi env).bind fun p=>if p.1.length≤100000 then (lcL g t me vs p.1 (zAA p.2 vs) []).map fun q=>(.new (.lst q.1),q.2) else none
section
variable {X:Cx} {K:oB} {js:List Nat} {g:MG} {t:MT} {me:ME} {mi:MI} {pos:Pos}
theorem Rel.wiped {B:Fb} {env:Sl} {σ:St} {Hk:Kn} {H:Hp} (R:Rel K B env σ Hk H):∀vs:List Nat,Rel K B (zAA env vs) (wipe σ vs) Hk H
 |[]=>R
 |v::vs=>(Rel.wiped R vs).setNo
theorem zDp {env:Sl} {i:Nat} {s:Slot}:∀{vs:List Nat},i∈vs→(zAA env vs)[i]?=some s→s=.no
 |v::vs,h,e=>by
  rcases zAv (show ((zAA env vs).set v .no)[i]?=some s from e) with ⟨_,z⟩|⟨ne,z⟩
  ·exact z
  ·rcases OB.mp h with q|q
   ·exact absurd q ne
   ·exact zDp q z
theorem zBJ {σ:St} {i:Nat}:∀{vs:List Nat},i ∉ vs→(wipe σ vs)[i]?=σ[i]?
 |[],_=>rfl
 |v::vs,h=>by
  show ((wipe σ vs).set v none)[i]?=_
  rw [oH (fun e=>h (by simp [e]))]
  exact zBJ (fun z=>h (oY _ z))
theorem zHB {σ:St} {i:Nat}:∀{vs:List Nat},i∈vs→i<σ.length→(wipe σ vs)[i]?=some none
 |v::vs,h,hl=>by
  show ((wipe σ vs).set v none)[i]?=_
  by_cases e:v=i
  ·subst e
   rw [oM (by rw [wipe_length];exact hl)]
  ·rw [oH e]
   rcases OB.mp h with q|q
   ·exact absurd q.symm e
   ·exact zHB q hl
theorem zEU {σ σ':St} {vs:List Nat} (h:∀i,i ∉ vs→σ'[i]?=σ[i]?) (hl:σ'.length=σ.length):wipe σ' vs=wipe σ vs:=by
 refine List.ext_getElem? fun i=>?_;by_cases hi:i∈vs
 ·by_cases hlt:i<σ.length
  ·rw [zHB hi hlt,zHB hi (by omega)]
  ·rw [List.getElem?_eq_none (by rw [wipe_length];omega),List.getElem?_eq_none (by rw [wipe_length];omega)]
 ·rw [zBJ hi,zBJ hi,h i hi]
theorem Rel.unwiped {B:Fb} {env:Sl} {σ:St} {Hk:Kn} {H:Hp} {vs:List Nat} (R:Rel K B (zAA env vs) (wipe σ vs) Hk H):Rel K B (zAA env vs) σ Hk H where
 ex:=R.ex
 kn:=R.kn
 fr:=R.fr
 kp:=R.kp
 oin:=R.oin
 o0:=R.o0
 len:=by rw [R.len,wipe_length]
 slot:=fun i s hi=>by
  by_cases h:i∈vs
  ·rw [zDp h hi]
   obtain ⟨o,h1,_⟩:=R.slot i s hi
   have hl:i<σ.length:=by
    have:=(oE.mp h1).1
    rw [wipe_length] at this
    exact this
   exact ⟨σ[i],oF hl,trivial⟩
  ·obtain ⟨o,h1,h2⟩:=R.slot i s hi
   rw [zBJ h] at h1
   exact ⟨o,h1,h2⟩
 sok:=R.sok
 pin:=R.pin
 psep:=fun i s a n hi ms e1=>by
  have n1:i ∉ vs:=fun z=>by
   rw [zDp z hi] at ms
   exact ms
  exact R.psep i s a n hi ms (by rw [zBJ n1];exact e1)
 sep:=fun i j s u a hi hj ms mu e1 e2=>by
  have n1:i ∉ vs:=fun z=>by
   rw [zDp z hi] at ms
   exact ms
  have n2:j ∉ vs:=fun z=>by
   rw [zDp z hj] at mu
   exact mu
  exact R.sep i j s u a hi hj ms mu (by rw [zBJ n1];exact e1) (by rw [zBJ n2];exact e2)
theorem zFB {vs:List Nat}:∀{ds:List PyData} {e:Sl} {acc:List PyData} {out:List PyData} {env':Sl},lcL g t me vs ds (zAA e vs) acc=some (out,env')→∃e',env'=zAA e' vs
 |[],e,acc,out,env',h=>by
  cases h
  exact ⟨e,rfl⟩
 |d::ds,e,acc,out,env',h=>by
  obtain ⟨e1,g1,h⟩:=oC.mp h
  obtain ⟨⟨b,e2⟩,g2,h⟩:=oC.mp h
  cases b with
  |false=>exact zFB (show lcL g t me vs ds (zAA e2 vs) acc=_ from h)
  |true=>
   obtain ⟨⟨r,e3⟩,g3,h⟩:=oC.mp (show ((mFrz me e2).bind _)=_ from h)
   cases r with
   |dat x=>exact zFB (show lcL g t me vs ds (zAA e3 vs) _=_ from h)
   |new c=>cases h
   |slt i=>cases h
   |pv p=>cases h
theorem zK9 {vs:List Nat} (hj:∀j,j∈js→j∈vs) {σ:St} {H:Hp} {Q:VK} (h:tE K (mLc mi g t me vs) σ H Q):tLc (tI K mi) (tG K js g) (tT K t) (tE K (mFrz me)) vs σ H Q:=by
 obtain ⟨B,env,Hk,res,env',R,hm,k⟩:=h
 obtain ⟨⟨ds,e1⟩,h1,hm⟩:=oC.mp hm
 by_cases hz:ds.length≤100000
 ·have hm:((lcL g t me vs ds (zAA e1 vs) []).map fun q=>(Res.new (Cell.lst q.1),q.2))=some (res,env'):=by
   have hm:(if ds.length≤100000 then _ else _)=_:=hm
   rw [if_pos hz] at hm
   exact hm
  obtain ⟨⟨out,e2⟩,h2,hm⟩:=oD.mp hm
  cases hm
  refine ⟨B,env,Hk,ds,e1,R,h1,fun J Hk1 H1 R1 s1 it p hp=>?_⟩
  obtain ⟨ew,rfl⟩:=zFB h2
  refine ⟨fun i m H=>m=ds.length - i∧∃e,∃Hk2:Kn,∃xs acc,Rel K B (zAA e vs) (wipe σ vs) Hk2 H∧KSame Hk1 Hk2∧H p=some (.lst xs)∧Hk2 p=none∧(∀(n:Nat),Hk2.P n≠some p)∧(∀(j:Nat) s,(zAA e vs)[j]?=some s→s.mut→(wipe σ vs)[j]?≠some (some (V.ref p)))∧DvAll K Hk2 xs acc∧acc.length≤i∧lcL g t me vs (ds.drop i) (zAA e vs) acc=some (out,zAA ew vs),
   ⟨ds.length,by simp,e1,Hk1,[],[],(R1.wiped vs).laid hp,.refl _,upd_same,R1.kfree hp,R1.pfree hp,fun j s a b=>(R1.wiped vs).mutNe hp a b,.nil,Nat.zero_le _,h2⟩,?_⟩
  have h0:B.H0 p=none:=R1.fresh0 hp
  rintro i m H2 ⟨rfl,e,Hk2,xs,acc,R2,s2,hpx,hkp,hPp,hnm,hda,hal,hf⟩
  obtain ⟨go,stop⟩:=it Hk2 H2 s2 R2.ex i
  cases hd:ds.drop i with
  |nil=>
   rw [hd] at hf
   have hf:some (acc,zAA e vs)=some (out,zAA ew vs):=hf
   obtain ⟨rfl,he⟩:acc=out∧zAA e vs=zAA ew vs:=by
    have:=oG hf
    exact ⟨congrArg Prod.fst this,congrArg Prod.snd this⟩
   have hl:ds.length≤i:=List.drop_eq_nil_iff.mp hd
   refine .inl ⟨stop hl,k _ Hk2 H2 (he ▸ R2.unwiped) (s1.trans s2) ⟨p,rfl,hkp,h0,⟨xs,hpx,hda⟩,hPp,?_⟩⟩
   rw [←he];intro j s hjs hms z
   have nj:j ∉ vs:=fun z=>by
    rw [zDp z hjs] at hms
    exact hms
   exact hnm j s hjs hms (by rw [zBJ nj];exact z)
  |cons d r=>
   rw [hd] at hf
   obtain ⟨hi,hr,hlt⟩:=zHl hd
   obtain ⟨gi,yi⟩:=go d hi
   obtain ⟨e2,g1,hf⟩:=oC.mp hf
   obtain ⟨⟨b,e3⟩,g2,hf⟩:=oC.mp hf
   have G:=R2.guard hpx hkp h0 hPp hnm
   refine .inr ⟨gi,fun H'=>∃e,∃Hk2:Kn,∃xs acc,Rel K B (zAA e vs) (wipe σ vs) Hk2 H'∧KSame Hk1 Hk2∧H' p=some (.lst xs)∧Hk2 p=none∧(∀(n:Nat),Hk2.P n≠some p)∧(∀(j:Nat) s,(zAA e vs)[j]?=some s→s.mut→(wipe σ vs)[j]?≠some (some (V.ref p)))∧DvAll K Hk2 xs acc∧acc.length≤i+1∧lcL g t me vs (ds.drop (i+1)) (zAA e vs) acc=some (out,zAA ew vs),
    fun H' w=>⟨ds.length - (i+1),by omega,rfl,w⟩,fun x H' y=>?_⟩
   obtain ⟨Hk3,G3,s3,o3⟩:=G.out (yi x H' y)
   refine ⟨_,_,Hk3,d,e2,G3,o3,g1,fun σ4 Hk4 H4 G4 s4 d4 l4=>⟨?_,?_⟩⟩
   ·rw [zEU (σ:=wipe σ vs) (fun i hi=>d4 i fun z=>hi (hj i z)) l4]
    exact zEU (fun i hi=>zBJ hi) (wipe_length _ _)
   have wq:wipe σ4 vs=wipe σ vs:=by
    rw [zEU (σ:=wipe σ vs) (fun i hi=>d4 i fun z=>hi (hj i z)) l4];exact zEU (fun i hi=>zBJ hi) (wipe_length _ _)
   have s3:=s3.trans s4
   refine ⟨_,e2,Hk4,b,e3,G4,g2,fun Hk5 H5 G5 s5=>?_⟩
   have fin:∀{e:Sl} {Hk6:Kn} {H6:Hp},Rel K (B.guard p (.lst xs)) e σ4 Hk6 H6→Rel K B (zAA e vs) (wipe σ vs) Hk6 H6∧H6 p=some (.lst xs)∧Hk6 p=none∧(∀(n:Nat),Hk6.P n≠some p)∧∀(j:Nat) s,(zAA e vs)[j]?=some s→s.mut→(wipe σ vs)[j]?≠some (some (V.ref p)):=fun {e Hk6 H6} G6=>by
    have Gw:=G6.wiped vs
    rw [wq] at Gw
    exact Gw.unguard h0 (R1.kn.free (R1.kfree hp)) (R1.nO h0)
   cases b with
   |false=>
    have hf:lcL g t me vs r (zAA e3 vs) acc=some (out,zAA ew vs):=hf
    obtain ⟨F1,F2,F3,F5,F4⟩:=fin G5
    show ∃e Hk2 xs acc,_
    exact ⟨e3,Hk5,xs,acc,F1,(s2.trans s3).trans s5,F2,F3,F5,F4,zB5 (s3.trans s5) _ _ hda,by omega,by rw [hr];exact hf⟩
   |true=>
    have hf:((mFrz me e3).bind _)=some (out,zAA ew vs):=hf
    obtain ⟨⟨rx,e4⟩,g3,hf⟩:=oC.mp hf
    show tE K (mFrz me) σ4 H5 _
    refine ⟨_,e3,Hk5,rx,e4,G5,g3,fun y6 Hk6 H6 G6 s6 o6=>?_⟩
    obtain ⟨F1,F2,F3,F5,F4⟩:=fin G6
    cases rx with
    |new c=>cases hf
    |slt i=>cases hf
    |pv p=>cases hf
    |dat dx=>
     have hf:lcL g t me vs r (zAA e4 vs) (acc++[dx])=some (out,zAA ew vs):=hf
     have sm:=(s3.trans s5).trans s6
     refine ⟨xs,F2,?_,e4,Hk6,xs++[y6],acc++[dx],F1.other F3 h0 F5 (fun x z=>by rw [F2] at z;cases z) F4,s2.trans sm,upd_same,F3,F5,F4,DvAll.append (zB5 sm _ _ hda) (.cons o6 .nil),?_,?_⟩
     ·rw [hda.len]
      exact Nat.lt_of_lt_of_le (show acc.length<200000 by omega) (by decide)
     ·rw [oI]
      show acc.length+1≤i+1
      omega
     ·rw [hr]
      exact hf
 ·have hm:(if ds.length≤100000 then _ else _)=_:=hm
  rw [if_neg hz] at hm
  cases hm
def mYes:MT:=fun env=>some (true,env)
abbrev VTs (X:Cx) (ifs:List Expr) (t:MT):Prop:=PTs X ifs (tT X.K t)
theorem _root_.L2.PTs.imp {X:Cx} {e:List Expr} {t t':TT} (h:PTs X e t) (k:∀σ H Q,t' σ H Q→t σ H Q):PTs X e t':=⟨fun pins s σ H Q I q=>h.run pins s σ H Q I (k σ H Q q)⟩
theorem zCr:VTs X [] mYes:=pts_nil.imp fun _ _ _ h=>by
 obtain ⟨B,env,Hk,b,env',R,hm,k⟩:=h
 cases hm
 exact k Hk _ R (.refl _)
theorem zLs {c:Expr} (h:VT X c t):VTs X [c] t:=pts_one h
theorem zGj {elt tg iter:Expr} {ifs:List Expr} {scope:Scope} {own:List (Str×Nat)} (hN:X.N.Nodup) (hi:VI X tg iter mi) (ok:BlkOk X.N X.env.scope scope own)
  (hg:∀(s:Shared) (H:Hp) (C:Addr) (cl:List (Str×Addr)) (fp:List Addr),VG (X.blk s H scope (compEnvC scope cl C X.env) fp) tg js g) (ht:∀(s:Shared) (H:Hp) (C:Addr) (cl:List (Str×Addr)) (fp:List Addr),VTs (X.blk s H scope (compEnvC scope cl C X.env) fp) ifs t)
  (he:∀(s:Shared) (H:Hp) (C:Addr) (cl:List (Str×Addr)) (fp:List Addr),VE (X.blk s H scope (compEnvC scope cl C X.env) fp) elt me) (hj:∀j,j∈js→j∈own.map (·.2)) (hc:X.calm=true:=by rfl) (hs:∀x,foldedSetIterable iter X.env x=pure x:=by intro _;rfl):
  VE X (.ListComp elt [⟨tg,iter,ifs,0⟩] scope pos) (mLc mi g t me (own.map (·.2))):=
 (pe_lc hc hN hi ok hg ht (fun s H C cl fp=>zAh (he s H C cl fp)) hs).imp fun _ _ _=>zK9 hj
theorem zH7 {i:Nat} {y:Str} {py spos:Pos} {elt tg iter:Expr} {ifs:List Expr} {scope:Scope} {own:List (Str×Nat)} (hN:X.N.Nodup) (hi:VI X tg iter mi) (ok:BlkOk X.N X.env.scope scope own)
  (hg:∀(s:Shared) (H:Hp) (C:Addr) (cl:List (Str×Addr)) (fp:List Addr),VG (X.blk s H scope (compEnvC scope cl C X.env) fp) tg js g) (ht:∀(s:Shared) (H:Hp) (C:Addr) (cl:List (Str×Addr)) (fp:List Addr),VTs (X.blk s H scope (compEnvC scope cl C X.env) fp) ifs t)
  (he:∀(s:Shared) (H:Hp) (C:Addr) (cl:List (Str×Addr)) (fp:List Addr),VE (X.blk s H scope (compEnvC scope cl C X.env) fp) elt me) (hj:∀j,j∈js→j∈own.map (·.2))
  (hsw:swapsWith (.ListComp elt [⟨tg,iter,ifs,0⟩] scope pos) (some (.Name y py)) spos.line X.env=pure true) (hy:X.N[i]?=some y:=by rfl) (hyl:X.env.scope.names.lookup y=some .local:=by rfl) (hc:X.calm=true:=by rfl) (hs:∀x,foldedSetIterable iter X.env x=pure x:=by intro _;rfl):
  VS X (.Assign [.Name y py] (.ListComp elt [⟨tg,iter,ifs,0⟩] scope pos) spos) (mSet i (mLc mi g t me (own.map (·.2)))):=
 fun W _=>(ps_setLc hc hN hy hyl hsw hi ok hg ht (fun s H C cl fp=>zAh (he s H C cl fp)) hs).imp fun D σ H h=>zK9 hj (zI7 h)
end
end Cm
namespace Cm
open PySem PySem.Spec PyProof.Rows L2
abbrev FM:=Sl→Option (Res×Sl)
def ArgOk (K:oB) (Hk H:Hp) (s:Slot) (v:V):Prop:=match s with
 |.val d=>Dv K Hk v d
 |.io _ c=>∃a,v=.ref a∧Hk a=none∧CellAt K Hk H a c
 |.scr ns=>∃a,v=.ref a∧SqL K Hk a (ns.map V.int)
 |_=>False
structure ArgsOk (K:oB) (Hk H:Hp) (ins:Sl) (vs:List V):Prop where
 len:ins.length=vs.length
 arg:∀(i:Nat) s v,ins[i]?=some s→vs[i]?=some v→ArgOk K Hk H s v
 ix:∀(i k:Nat) c,ins[i]?=some (.io k c)→k=i
 sep:∀(i j k l:Nat) c c' a,ins[i]?=some (.io k c)→ins[j]?=some (.io l c')→vs[i]?=some (V.ref a)→vs[j]?=some (V.ref a)→i=j
def ioA (ins:Sl) (vs:List V) (k:Nat):Option Addr:=match ins[k]?,vs[k]? with
 |some (.io _ _),some (.ref a)=>some a
 |_,_=>none
def FRes (K:oB) (H Hk' H':Hp) (r:Res) (v:V):Prop:=match r with
 |.dat d=>Dv K Hk' v d
 |.new c=>∃a,v=.ref a∧Hk' a=none∧H a=none∧CellAt K Hk' H' a c
 |_=>False
structure PostF (K:oB) (Hk H:Hp) (ins:Sl) (vs:List V) (outs:Sl) (r:Res) (v:V) (Hk' H':Hp):Prop where
 kn:Same Hk Hk'
 ex:Same Hk' H'
 fr:∀a,Hk' a≠none→Hk a=none→H a=none
 kp:∀a o,H a=some o→(∀k,ioA ins vs k≠some a)→H' a=some o
 io:∀k a,ioA ins vs k=some a→∃c',outs[k]?=some (.io k c')∧Hk' a=none∧CellAt K Hk' H' a c'
 res:FRes K H Hk' H' r v
def spF (K:oB) (fm:FM):Sp:=fun vs H Q _=>∃Hk ins r outs,Same Hk H∧ArgsOk K Hk H ins vs∧fm ins=some (r,outs)∧∀v Hk' H',PostF K Hk H ins vs outs r v Hk' H'→Q v H'
def ioKept:Sl→Sl→Bool
 |.io k _::s,.io l _::t=>k==l&&ioKept s t
 |.io _ _::_,_=>false
 |_::s,_::t=>ioKept s t
 |_::s,[]=>ioKept s []
 |[],_=>true
def finR:Fl×Sl→Option Res
 |(.nx,_)=>some (.dat .none)
 |(.rt (.dat d),_)=>some (.dat d)
 |(.rt (.new c),_)=>some (.new c)
 |(.rt (.pv p),e)=>(p.deep (sto e) 9).map .dat
 |(.rt (.slt i),e)=>match e[i]? with
  |some (.val d)=>some (.dat d)
  |some (.own c)=>some (.new c)
  |_=>none
 |_=>none
def fmOf (np n:Nat) (mb:MS):FM:=fun ins=>if ins.length=np then (mb (ins++List.replicate (n - np) .no)).bind fun p=>(finR p).bind fun r=>if ioKept ins p.2=true then some (r,p.2.take np) else none else none
theorem zAq:∀{s t:Sl} {i k:Nat} {c:Cell},ioKept s t=true→s[i]?=some (.io k c)→∃c',t[i]?=some (.io k c')
 |.io k _::s,.io l c'::t,0,k',c,h,e=>by
  simp at e
  simp only [ioKept,oS,beq_iff_eq] at h
  exact ⟨c',by rw [←e.1,h.1];rfl⟩
 |.io k _::s,.io l c'::t,i+1,k',c,h,e=>by
  simp only [ioKept,oS] at h
  obtain ⟨z,q⟩:=zAq (i:=i) h.2 (by simpa using e)
  exact ⟨z,by simpa using q⟩
 |.io k _::s,.no::t,_,_,_,h,e=>by cases h
 |.io k _::s,.val _::t,_,_,_,h,e=>by cases h
 |.io k _::s,.own _::t,_,_,_,h,e=>by cases h
 |.io k _::s,.scr _::t,_,_,_,h,e=>by cases h
 |.io k _::s,.pin _::t,_,_,_,h,e=>by cases h
 |.io k _::s,.pv _::t,_,_,_,h,e=>by cases h
 |.io k _::s,.sto _::t,_,_,_,h,e=>by cases h
 |.io k _::s,[],_,_,_,h,e=>by cases h
 |.no::s,x::t,0,_,_,h,e=>by simp at e
 |.val _::s,x::t,0,_,_,h,e=>by simp at e
 |.own _::s,x::t,0,_,_,h,e=>by simp at e
 |.scr _::s,x::t,0,_,_,h,e=>by simp at e
 |.pin _::s,x::t,0,_,_,h,e=>by simp at e
 |.sto _::s,x::t,0,_,_,h,e=>by simp at e
 |.pv _::s,x::t,0,_,_,h,e=>by simp at e
 |.no::s,x::t,i+1,_,_,h,e=>by
  obtain ⟨z,q⟩:=zAq (s:=s) (t:=t) (i:=i) h (by simpa using e)
  exact ⟨z,by simpa using q⟩
 |.val _::s,x::t,i+1,_,_,h,e=>by
  obtain ⟨z,q⟩:=zAq (s:=s) (t:=t) (i:=i) h (by simpa using e)
  exact ⟨z,by simpa using q⟩
 |.own _::s,x::t,i+1,_,_,h,e=>by
  obtain ⟨z,q⟩:=zAq (s:=s) (t:=t) (i:=i) h (by simpa using e)
  exact ⟨z,by simpa using q⟩
 |.scr _::s,x::t,i+1,_,_,h,e=>by
  obtain ⟨z,q⟩:=zAq (s:=s) (t:=t) (i:=i) h (by simpa using e)
  exact ⟨z,by simpa using q⟩
 |.pin _::s,x::t,i+1,_,_,h,e=>by
  obtain ⟨z,q⟩:=zAq (s:=s) (t:=t) (i:=i) h (by simpa using e)
  exact ⟨z,by simpa using q⟩
 |.sto _::s,x::t,i+1,_,_,h,e=>by
  obtain ⟨z,q⟩:=zAq (s:=s) (t:=t) (i:=i) h (by simpa using e)
  exact ⟨z,by simpa using q⟩
 |.pv _::s,x::t,i+1,_,_,h,e=>by
  obtain ⟨z,q⟩:=zAq (s:=s) (t:=t) (i:=i) h (by simpa using e)
  exact ⟨z,by simpa using q⟩
 |.no::s,[],0,_,_,h,e=>by simp at e
 |.val _::s,[],0,_,_,h,e=>by simp at e
 |.own _::s,[],0,_,_,h,e=>by simp at e
 |.scr _::s,[],0,_,_,h,e=>by simp at e
 |.pin _::s,[],0,_,_,h,e=>by simp at e
 |.sto _::s,[],0,_,_,h,e=>by simp at e
 |.pv _::s,[],0,_,_,h,e=>by simp at e
 |.no::s,[],i+1,_,_,h,e=>by
  obtain ⟨z,q⟩:=zAq (s:=s) (t:=[]) (i:=i) h (by simpa using e)
  simp at q
 |.val _::s,[],i+1,_,_,h,e=>by
  obtain ⟨z,q⟩:=zAq (s:=s) (t:=[]) (i:=i) h (by simpa using e)
  simp at q
 |.own _::s,[],i+1,_,_,h,e=>by
  obtain ⟨z,q⟩:=zAq (s:=s) (t:=[]) (i:=i) h (by simpa using e)
  simp at q
 |.scr _::s,[],i+1,_,_,h,e=>by
  obtain ⟨z,q⟩:=zAq (s:=s) (t:=[]) (i:=i) h (by simpa using e)
  simp at q
 |.pin _::s,[],i+1,_,_,h,e=>by
  obtain ⟨z,q⟩:=zAq (s:=s) (t:=[]) (i:=i) h (by simpa using e)
  simp at q
 |.sto _::s,[],i+1,_,_,h,e=>by
  obtain ⟨z,q⟩:=zAq (s:=s) (t:=[]) (i:=i) h (by simpa using e)
  simp at q
 |.pv _::s,[],i+1,_,_,h,e=>by
  obtain ⟨z,q⟩:=zAq (s:=s) (t:=[]) (i:=i) h (by simpa using e)
  simp at q
 |[],_,i,_,_,_,e=>by simp at e
section
variable {P:Program} {w:World} {K:oB} {mg:Str→Option Value} {base:Heap}
theorem zFD {ins:Sl} {vs:List V} {k:Nat} {a:Addr} (h:ioA ins vs k=some a):∃l c,ins[k]?=some (.io l c)∧vs[k]?=some (.ref a):=by
 unfold ioA at h
 split at h
 ·rename_i l c b e1 e2
  cases h
  exact ⟨l,c,e1,e2⟩
 ·cases h
theorem zJx {ins:Sl} {vs:List V} {k l:Nat} {c:Cell} {a:Addr} (h:ins[k]?=some (.io l c)) (h':vs[k]?=some (.ref a)):ioA ins vs k=some a:=by
 unfold ioA;rw [h,h']
theorem zB8 {N:List Str} {vs:List V} {i:Nat} {v:V} (h:vs[i]?=some v):(L2.start N vs)[i]?=some (some v):=by
 unfold L2.start;rw [oL (by rw [oJ];exact (oE.mp h).1),oO,h]
 rfl
theorem zDX {N:List Str} {vs:List V} (h:vs.length≤N.length):(L2.start N vs).length=N.length:=by
 unfold L2.start;rw [oI,oJ,oT];omega
theorem ArgsOk.rel {Hk H:Hp} {ins:Sl} {vs:List V} {N:List Str} (A:ArgsOk K Hk H ins vs) (s:Same Hk H) (hl:vs.length≤N.length):
  Rel K ⟨⟨Hk,fun _=>none⟩,H,ioA ins vs,fun _=>none,fun _=>False⟩ (ins++List.replicate (N.length - ins.length) .no) (L2.start N vs) ⟨Hk,fun _=>none⟩ H:=by
 have io:∀a,(⟨⟨Hk,fun _=>none⟩,H,ioA ins vs,fun _=>none,fun _=>False⟩:Fb).io a→H a≠none∧Hk a=none:=fun a h=>by
  obtain ⟨k,h⟩:=h.resolve_right (fun z=>z)
  obtain ⟨l,c,e1,e2⟩:=zFD h
  obtain ⟨b,e3,q1,q2⟩:=A.arg k _ _ e1 e2
  cases e3
  obtain ⟨o,ho⟩:=q2.there
  exact ⟨zAO ho,q1⟩
 have cut:∀(i:Nat) s,(ins++List.replicate (N.length - ins.length) Slot.no)[i]?=some s→(ins[i]?=some s∧i<vs.length)∨s=.no:=fun i s h=>by
  by_cases hi:i<ins.length
  ·rw [oL hi] at h
   exact .inl ⟨h,by rw [←A.len];exact hi⟩
  ·rw [oN (by omega),List.getElem?_replicate] at h
   split at h
   ·cases h
    exact .inr rfl
   ·cases h
 refine ⟨s,.refl _,fun a h1 h2=>absurd h2 h1,fun a o h _=>h,io,fun a h=>(io a h).1,?_,fun i s h=>?_,fun i j s t a h1 h2 m1 m2 e1 e2=>?_,fun M h=>?_,(fun n a h=>by cases h),(fun _ _ _ _ _ _ _ h=>by cases h)⟩
 ·rw [oI,oT,zDX hl,A.len]
  omega
 ·rcases cut i s h with ⟨q,hi⟩|rfl
  ·have hv:vs[i]?=some vs[i]:=oF hi
   refine ⟨some vs[i],zB8 hv,?_⟩
   have z:=A.arg i s _ q hv
   cases s with
   |no=>trivial
   |val d=>exact ⟨_,rfl,z⟩
   |own c=>cases z
   |scr ns=>
    obtain ⟨a,e1,q1⟩:=z
    exact ⟨a,by rw [e1],q1⟩
   |pin a=>cases z
   |pv p=>cases z
   |sto M=>cases z
   |io k c=>
    obtain ⟨a,e1,q1,q2⟩:=z
    refine ⟨a,by rw [e1],q1,?_,q2⟩
    have:=A.ix i k c q
    subst this;exact zJx q (by rw [hv,e1])
  ·have hlt:i<(L2.start N vs).length:=by
    have:=(oE.mp h).1
    rw [oI,oT,A.len] at this
    rw [zDX hl];omega
   exact ⟨_,oF hlt,trivial⟩
 ·rcases cut i s h1 with ⟨q1,hi⟩|rfl
  ·rcases cut j t h2 with ⟨q2,hj⟩|rfl
   ·have v1:vs[i]?=some vs[i]:=oF hi
    have v2:vs[j]?=some vs[j]:=oF hj
    have g1:=zB8 (N:=N) v1
    have g2:=zB8 (N:=N) v2
    rw [e1] at g1
    rw [e2] at g2
    have w1:vs[i]?=some (.ref a):=by rw [v1];exact congrArg some (oG (oG g1)).symm
    have w2:vs[j]?=some (.ref a):=by rw [v2];exact congrArg some (oG (oG g2)).symm
    cases s with
    |no=>cases m1
    |val d=>cases m1
    |scr d=>cases m1
    |pin a=>cases m1
    |pv p=>cases m1
    |sto M=>cases m1
    |own c=>exact False.elim (A.arg i _ _ q1 w1)
    |io k c=>
     cases t with
     |no=>cases m2
     |val d=>cases m2
     |scr d=>cases m2
     |pin a=>cases m2
     |pv p=>cases m2
     |sto M=>cases m2
     |own c=>exact False.elim (A.arg j _ _ q2 w2)
     |io l c'=>exact A.sep i j k l c c' a q1 q2 w1 w2
   ·cases m2
  ·cases m1
 ·rcases cut _ _ h with ⟨q,hi⟩|z
  ·exact False.elim (A.arg _ _ _ q (oF hi))
  ·cases z
theorem zJ8 {np:Nat} {fm:FM} (hnp:∀ins r,fm ins=some r→ins.length=np) (vs:List V) (H:Hp) (Q:VK) (E:XK) (h:spF K fm vs H Q E):vs.length=np:=by
 obtain ⟨Hk,ins,r,outs,_,hA,hf,_⟩:=h
 rw [←hA.len,hnp _ _ hf]
theorem zIk {np n:Nat} {mb:MS} (ins:Sl) (r:Res×Sl) (h:fmOf np n mb ins=some r):ins.length=np:=by
 unfold fmOf at h;by_cases hl:ins.length=np
 ·exact hl
 ·rw [if_neg hl] at h
  cases h
theorem zLB {N ps:List Str} {mb:MS} (vs:List V) (H:Hp) (Q:VK) (E:XK) (h:spF K (fmOf ps.length N.length mb) vs H Q E):vs.length=ps.length:=zJ8 (fun _ _=>zIk _ _) vs H Q E h
open Classical in
noncomputable def Kn.all (Hk:Kn) (H:Hp):Hp:=fun a=>if ∃n,Hk.P n=some a then H a else Hk a
theorem Kn.all_same {B:Fb} {env:Sl} {σ:L2.St} {Hk:Kn} {H:Hp} (R:Cm.Rel K B env σ Hk H):Same Hk (Hk.all H):=fun a o e=>by
 unfold Kn.all;split
 ·exact R.ex _ _ e
 ·exact e
theorem Kn.all_ex {B:Fb} {env:Sl} {σ:L2.St} {Hk:Kn} {H:Hp} (R:Cm.Rel K B env σ Hk H):Same (Hk.all H) H:=fun a o e=>by
 unfold Kn.all at e
 split at e
 ·exact e
 ·exact R.ex _ _ e
theorem Kn.all_at {Hk:Kn} {H:Hp} {n:Nat} {a:Addr} (h:Hk.P n=some a):Hk.all H a=H a:=if_pos ⟨n,h⟩
theorem Kn.all_out {Hk:Kn} {H:Hp} {a:Addr} (h:∀n,Hk.P n≠some a):Hk.all H a=Hk a:=if_neg fun ⟨n,e⟩=>h n e
theorem zKF {qual:Str} {st:Stmt} {f:Addr} {N ps:List Str} {mb:MS} (S:FnScope N ps (defScope st)) {cdv:Value} {A:Around} {outer:List Env} {s:Shared} {H:Hp} {E:XK} {vs:List V} {Q:VK}
  (hb:VSs ((cxOf CX0 P w K mg base N qual (defScope st) f cdv A outer s H E).nox) (defBody st) mb) {Hk:Hp} {ins env0:Sl} {r:Res} {outs:Sl} (sm:Same Hk H) (hA:ArgsOk K Hk H ins vs) (hl:ins.length=ps.length)
  (h0:∀{B:Fb} {σ:L2.St} {Hk':Kn},(∀n,Hk'.P n=none)→Cm.Rel K B (ins++List.replicate (N.length - ps.length) Slot.no) σ Hk' H→Cm.Rel K B env0 σ Hk' H)
  (hf:((mb env0).bind fun p=>(finR p).bind fun r=>if ioKept ins p.2=true then some (r,p.2.take ps.length) else none)=some (r,outs)) (q:∀v Hk' H',PostF K Hk H ins vs outs r v Hk' H'→Q v H'):
  ∃t,PSs (cxOf CX0 P w K mg base N qual (defScope st) f cdv A outer s H E) (defBody st) t∧t {nx:=fun _ H'=>Q .non H',rt:=Q} (L2.start N vs) H:=by
 have hpl:ps.length≤N.length:=by
  have:=congrArg List.length S.pre
  rw [List.length_take] at this
  omega
 obtain ⟨⟨fl,env'⟩,h1,hf⟩:=oC.mp hf
 obtain ⟨r',h2,hf⟩:=oC.mp hf
 by_cases hk:ioKept ins env'=true
 ·have hf:(if ioKept ins env'=true then some (r',env'.take ps.length) else none)=some (r,outs):=hf
  rw [if_pos hk] at hf
  cases hf
  refine ⟨tS K (fun _ _ _ _=>False) mb,PSs.nox (hb _ fun u s' h=>by obtain ⟨_,_,_,_,_,_,_,_,_,_,_,_,_,_,_,_,w⟩:=h;exact w.elim),?_⟩
  have R:=hA.rel (N:=N) sm (by rw [←hA.len,hl];exact hpl)
  rw [hl] at R
  refine ⟨_,_,_,fl,env',h0 (fun _=>rfl) R,h1,fun σ' Hk' H' R' s'=>?_⟩
  have post:∀v,FRes K H Hk' H' r v→Q v H':=fun v hv=>by
   refine q v Hk' H' ⟨s'.s,R'.ex,R'.fr,fun a o h1 h2=>R'.kp a o h1 (fun z=>z.elim (fun ⟨k,z⟩=>h2 k z) id),fun k a h=>?_,hv⟩
   obtain ⟨l,c,e1,e2⟩:=zFD h
   have:=hA.ix k l c e1
   subst this;obtain ⟨c',g1⟩:=zAq hk e1
   have hlt:l<ps.length:=by rw [←hl];exact (oE.mp e1).1
   refine ⟨c',by rw [List.getElem?_take_of_lt hlt];exact g1,(R'.oin a (.inl ⟨l,h⟩)).2,?_⟩
   obtain ⟨o,_,b,_,_,z1,z2⟩:=R'.slot l _ g1
   have z1:ioA ins vs l=some b:=z1
   rw [h] at z1
   cases z1
   exact z2
  cases fl with
  |nx=>
   cases h2
   exact post .non .non
  |bk=>cases h2
  |ct=>cases h2
  |ex C fs=>cases h2
  |rt r0=>
   intro v hv
   cases r0 with
   |dat d=>
    cases h2
    exact post v hv
   |pv p=>
    obtain ⟨d,h3,rfl⟩:=oD.mp h2
    have hd:Dv K (Hk'.all H') v d:=R'.deepP (Kn.all_same R') (fun n c a _ _ h=>Kn.all_at h) 9 hv h3
    have hio:∀(n:Nat) k a,Hk'.P n=some a→ioA ins vs k≠some a:=fun n k a h1 h2=>by
     obtain ⟨l,c,e1,e2⟩:=zFD h2
     have:=hA.ix k l c e1
     subst this;obtain ⟨c',g1⟩:=zAq hk e1
     obtain ⟨o,z0,b,rfl,_,z1,z2⟩:=R'.slot l _ g1
     have z1:ioA ins vs l=some b:=z1
     rw [h2] at z1
     cases z1
     exact R'.psep l _ a n g1 trivial z0 h1
    refine q v (Hk'.all H') H' ⟨s'.s.trans (Kn.all_same R'),Kn.all_ex R',fun a h1 h2=>?_,fun a o h1 h2=>R'.kp a o h1 (fun z=>z.elim (fun ⟨k,z⟩=>h2 k z) id),fun k a h=>?_,hd⟩
    ·by_cases hp:∃n,Hk'.P n=some a
     ·obtain ⟨n,hn⟩:=hp
      by_cases hka:Hk' a=none
      ·rcases (R'.pin n a hn).2 hka with z|z
       ·exact z
       ·exact False.elim (z.elim (fun ⟨k,z⟩=>hio n k a hn z) id)
      ·exact R'.fr a hka h2
     ·rw [Kn.all_out fun n z=>hp ⟨n,z⟩] at h1
      exact R'.fr a h1 h2
    ·obtain ⟨l,c,e1,e2⟩:=zFD h
     have:=hA.ix k l c e1
     subst this;obtain ⟨c',g1⟩:=zAq hk e1
     have hlt:l<ps.length:=by rw [←hl];exact (oE.mp e1).1
     refine ⟨c',by rw [List.getElem?_take_of_lt hlt];exact g1,?_,?_⟩
     ·rw [Kn.all_out fun n z=>hio n l a z h]
      exact (R'.oin a (.inl ⟨l,h⟩)).2
     ·obtain ⟨o,_,b,_,_,z1,z2⟩:=R'.slot l _ g1
      have z1:ioA ins vs l=some b:=z1
      rw [h] at z1
      cases z1
      exact z2.mono (Kn.all_same R') fun o z=>z
   |new c=>
    cases h2
    obtain ⟨a,rfl,q1,q2,q3,_⟩:=hv
    exact post _ ⟨a,rfl,q1,q2,q3⟩
   |slt i=>
    have hv:σ'[i]?=some (some v):=hv
    cases e:env'[i]? with
    |none=>
     simp only [finR,e] at h2
     cases h2
    |some s=>
     obtain ⟨o,g1,g2⟩:=R'.slot i s e
     rw [hv] at g1
     cases g1
     simp only [finR,e] at h2
     cases s with
     |val d=>
      cases h2
      obtain ⟨v',e1,z⟩:=g2
      cases e1
      exact post _ z
     |own c=>
      cases h2
      obtain ⟨a,e1,z1,z2,z3⟩:=g2
      cases e1
      exact post _ ⟨a,rfl,z1,z2,z3⟩
     |_=>cases h2
 ·have hf:(if ioKept ins env'=true then some (r',env'.take ps.length) else none)=some (r,outs):=hf
  rw [if_neg hk] at hf
  cases hf
theorem zL8 {qual:Str} {st:Stmt} {f:Addr} {N ps:List Str} {mb:MS} (S:FnScope N ps (defScope st)) {cdv:Value} {A:Around} {outer:List Env} {s:Shared} {H:Hp} {E:XK} {vs:List V} {Q:VK}
  (hb:VSs ((cxOf CX0 P w K mg base N qual (defScope st) f cdv A outer s H E).nox) (defBody st) mb) (h:spF K (fmOf ps.length N.length mb) vs H Q E):
  ∃t,PSs (cxOf CX0 P w K mg base N qual (defScope st) f cdv A outer s H E) (defBody st) t∧t {nx:=fun _ H'=>Q .non H',rt:=Q} (L2.start N vs) H:=by
 obtain ⟨Hk,ins,r,outs,sm,hA,hf,q⟩:=h
 have hl:=zIk _ _ hf
 unfold fmOf at hf;rw [if_pos hl] at hf
 exact zKF S hb sm hA hl (fun _ R=>R) hf q
theorem zCk {x qual:Str} {st:Stmt} {f:Addr} {fd:FuncData} {N ps:List Str} {k:Nat} {mb:MS} (F:FunD K x qual (defArgs st) (defBody st) (defScope st) [] [] f fd) (S:FnScope N ps (defScope st))
  (hb:∀(cdv:Value) (A:Around) (outer:List Env) (s:Shared) (H:Hp) (E:XK),Room k (A.deeper (envOfC qual (defScope st) s.heap.objs.size f cdv))→VSs ((cxOf CX0 P w K mg base N qual (defScope st) f cdv A outer s H E).nox) (defBody st) mb):
  FnOk P w K mg base CX0 (k+1) f fd ps (spF K (fmOf ps.length N.length mb)):=
 F.ok (CX:=CX0) S zLB fun cdv A outer s H vs Q E hr h=>zL8 S (hb cdv A outer s H E hr) h
end
end Cm
namespace Cm
open PySem L2
def argV (brw:Bool) (io:Option Nat) (env:Sl) (k:Nat) (r:Res):Option Slot:=if io=some k then (match r with
  |.slt i=>match env[i]? with
   |some (.own c)=>some (.io k c)
   |some (.io _ c)=>some (.io k c)
   |_=>none
  |_=>none) else match r with
  |.dat d=>some (.val d)
  |.slt i=>match env[i]? with
   |some (.val d)=>some (.val d)
   |some (.scr ns)=>some (.scr ns)
   |some (.own c)=>if brw then some (.val c.dat) else none
   |some (.io _ c)=>if brw then some (.val c.dat) else none
   |_=>none
  |.pv p=>if brw then (p.deep (sto env) 9).map .val else (p.kn (sto env)).map .val
  |_=>none
def zDz (brw:Bool) (io:Option Nat) (env:Sl):Nat→List Res→Option Sl
 |_,[]=>some []
 |k,r::rs=>(argV brw io env k r).bind fun s=>(zDz brw io env (k+1) rs).map (s::·)
def zBH (io:Option Nat) (env:Sl) (rs:List Res) (outs:Sl):Option Sl:=match io with
 |none=>some env
 |some q=>match rs[q]?,outs[q]? with
  |some (.slt i),some (.io _ c)=>match env[i]? with
   |some s=>some (env.set i (s.put c))
   |none=>none
  |_,_=>none
def zDD (fm:FM) (io:Option Nat) (ms:MA):ME:=fun env=>(ms env).bind fun p=>(zDz false io p.2 0 p.1).bind fun ins=>(fm ins).bind fun q=>(zBH io p.2 p.1 q.2).map fun e=>(q.1,e)
def flatD:PyData→Bool
 |.none=>true
 |.bool _=>true
 |.int _=>true
 |.str _=>true
 |_=>false
def flatR:Res→Bool
 |.dat d=>flatD d
 |.new (.lst ds)=>ds.all flatD
 |.new (.dct es)=>es.all fun p=>flatD p.2
 |_=>false
def flatS:Slot→Bool
 |.io _ (.lst ds)=>ds.all flatD
 |.io _ (.dct es)=>es.all fun p=>flatD p.2
 |_=>true
def zEF (io:Option Nat) (rs:List Res):Bool:=match io with
 |none=>true
 |some q=>match rs[q]? with
  |some (.slt i)=>(List.range rs.length).all fun j=>j==q||(match rs[j]? with
   |some (.slt l)=>l !=i
   |_=>true)
  |_=>false
def zAs (fm:FM) (io:Option Nat) (ms:MA):ME:=fun env=>(ms env).bind fun p=>if zEF io p.1=true then (zDz true io p.2 0 p.1).bind fun ins=>(fm ins).bind fun q=>if (flatR q.1&&q.2.all flatS)=true then (zBH io p.2 p.1 q.2).map fun e=>(q.1,e) else none else none
section
variable {X:Cx} {K:oB} {B:Fb} {env:Sl} {σ:St} {Hk Hk':Kn} {H H':Hp}
theorem zDm {brw:Bool} {io:Option Nat}:∀{rs:List Res} {k:Nat} {ins:Sl},zDz brw io env k rs=some ins→ins.length=rs.length∧∀(i:Nat) r,rs[i]?=some r→∃s,ins[i]?=some s∧argV brw io env (k+i) r=some s
 |[],k,ins,h=>by
  cases h
  exact ⟨rfl,fun i r e=>by simp at e⟩
 |r::rs,k,ins,h=>by
  obtain ⟨s,h1,h⟩:=oC.mp h
  obtain ⟨ss,h2,h3⟩:=oD.mp h
  subst h3;obtain ⟨l,g⟩:=zDm h2
  refine ⟨by simp [l],fun i r' e=>?_⟩
  cases i with
  |zero=>
   simp at e
   subst e;exact ⟨s,rfl,h1⟩
  |succ i=>
   obtain ⟨s',q1,q2⟩:=g i r' (by simpa using e)
   refine ⟨s',by simpa using q1,?_⟩
   rw [show k+(i+1)=k+1+i by omega]
   exact q2
theorem RsAll.len:∀{rs:List Res} {vs:List V},RsAll K σ Hk rs vs→rs.length=vs.length
 |_,_,.nil=>rfl
 |_,_,.cons _ h=>by
  have:=RsAll.len h
  simp [this]
theorem RsAll.get:∀{rs:List Res} {vs:List V},RsAll K σ Hk rs vs→∀(i:Nat) v,vs[i]?=some v→∃r,rs[i]?=some r∧RsOk K σ Hk r v
 |_,_,.nil,i,v,h=>by simp at h
 |_,_,.cons h1 _,0,v,h=>by
  simp at h
  subst h;exact ⟨_,rfl,h1⟩
 |_,_,.cons _ h2,i+1,v,h=>by
  obtain ⟨r,e,q⟩:=RsAll.get h2 i v (by simpa using h)
  exact ⟨r,by simpa using e,q⟩
theorem Rel.mutAt (R:Rel K B env σ Hk H) {i:Nat} {s:Slot} (hs:env[i]?=some s) (hm:s.mut):∃a,σ[i]?=some (some (V.ref a))∧Hk a=none∧(∃o,H a=some o)∧(B.H0 a=none∨B.io a):=by
 obtain ⟨o,h1,h2⟩:=R.slot i s hs
 cases s with
 |no=>cases hm
 |val d=>cases hm
 |scr d=>cases hm
 |pin a=>cases hm
 |pv p=>cases hm
 |sto M=>cases hm
 |own c=>
  obtain ⟨a,rfl,q1,q2,q3⟩:=h2
  exact ⟨a,h1,q1,q3.there,.inl q2⟩
 |io k c=>
  obtain ⟨a,rfl,q1,q2,q3⟩:=h2
  exact ⟨a,h1,q1,q3.there,.inr (.inl ⟨k,q2⟩)⟩
theorem Rel.called (R:Rel K B env σ Hk H) (kn:Same Hk Hk') (hP:Hk'.P=Hk.P) (ex:Same Hk' H') (fr:∀a,Hk' a≠none→Hk a=none→H a=none) {i:Nat} {s:Slot} {a:Addr} {c':Cell} (hs:env[i]?=some s) (hm:s.mut) (ha:σ[i]?=some (some (V.ref a)))
  (kp:∀b o,H b=some o→b≠a→H' b=some o) (hc:CellAt K Hk' H' a c'):Rel K B (env.set i (s.put c')) σ Hk' H':=by
 obtain ⟨a',e1,q1,⟨o,ho⟩,q2⟩:=R.mutAt hs hm
 rw [ha] at e1
 cases e1
 obtain ⟨o',ho'⟩:=hc.there
 have hk':Hk' a=none:=by
  cases q:Hk' a with
  |none=>rfl
  |some u=>exact absurd (fr a (zAO q) q1) (zAO ho)
 have eqH:H'=upd (upd H' a o) a o':=by
  funext b
  by_cases e:b=a
  ·rw [e,upd_same,ho']
  ·rw [upd_ne e,upd_ne e]
 have sH:Same H (upd H' a o):=fun b x e=>by
  by_cases z:b=a
  ·rw [z] at e ⊢
   rw [ho] at e
   rw [upd_same];exact e
  ·rw [upd_ne z]
   exact kp b x e z
 have R2:Rel K B env σ Hk' (upd H' a o):=R.grow kn (fun b x e=>by
  have z:b≠a:=fun z=>by rw [z,hk'] at e;cases e
  rw [upd_ne z];exact ex b x e) sH fr hP
 have hc2:CellAt K Hk' (upd (upd H' a o) a o') a c':=by
  rw [←eqH];exact hc
 have R3:=R2.change hs hm ha hc2
 rw [←eqH] at R3
 exact R3
theorem zGP {ins:Sl} {vs:List V} {H H':Hp} (kp:∀a o,H a=some o→(∀k,ioA ins vs k≠some a)→H' a=some o) (hn:∀k,ioA ins vs k=none):Same H H':=fun a o e=>kp a o e fun k z=>by rw [hn k] at z;cases z
theorem zFM {brw:Bool} {io:Option Nat} {rs:List Res} {ins:Sl} (h:zDz brw io env 0 rs=some ins) {i k:Nat} {c:Cell} (e:ins[i]?=some (.io k c)):k=i∧io=some i∧∃j s,rs[i]?=some (.slt j)∧env[j]?=some s∧s.mut∧(s=.own c∨∃l,s=.io l c):=by
 obtain ⟨l,g⟩:=zDm h
 have hi:i<rs.length:=by rw [←l];exact (oE.mp e).1
 obtain ⟨s,q1,q2⟩:=g i _ (oF hi)
 rw [e] at q1
 cases q1
 rw [Nat.zero_add] at q2
 unfold argV at q2;by_cases hio:io=some i
 ·rw [if_pos hio] at q2
  cases er:rs[i] with
  |dat d=>rw [er] at q2;cases q2
  |new d=>rw [er] at q2;cases q2
  |pv p=>rw [er] at q2;cases brw<;>simp at q2
  |slt j=>
   rw [er] at q2
   cases ej:env[j]? with
   |none=>simp only [ej] at q2;cases q2
   |some s=>
    simp only [ej] at q2
    cases s with
    |no=>cases q2
    |val d=>cases q2
    |scr d=>cases q2
    |pin a=>cases q2
    |pv p=>cases q2
    |sto M=>cases q2
    |own c2=>
     cases q2
     exact ⟨rfl,hio,j,_,by rw [oF hi,er],ej,trivial,.inl rfl⟩
    |io l c2=>
     cases q2
     exact ⟨rfl,hio,j,_,by rw [oF hi,er],ej,trivial,.inr ⟨l,rfl⟩⟩
 ·rw [if_neg hio] at q2
  cases er:rs[i] with
  |dat d=>rw [er] at q2;cases q2
  |new d=>rw [er] at q2;cases q2
  |pv p=>rw [er] at q2;cases brw<;>simp at q2
  |slt j=>
   rw [er] at q2
   cases ej:env[j]? with
   |none=>simp only [ej] at q2;cases q2
   |some s=>
    simp only [ej] at q2
    cases s with
    |no=>cases q2
    |val d=>cases q2
    |scr d=>cases q2
    |pin a=>cases q2
    |pv p=>cases q2
    |sto M=>cases q2
    |own c2=>cases brw<;>cases q2
    |io l c2=>cases brw<;>cases q2
theorem CellAt.slot (R:Rel K B env σ Hk H) {j:Nat} {s:Slot} {c:Cell} {a:Addr} (hs:env[j]?=some s) (hc:s=.own c∨∃l,s=.io l c) (ha:σ[j]?=some (some (V.ref a))):CellAt K Hk H a c:=by
 obtain ⟨o,h1,h2⟩:=R.slot j s hs
 rw [ha] at h1
 cases h1
 rcases hc with rfl|⟨l,rfl⟩
 ·obtain ⟨b,e1,_,_,q⟩:=h2
  cases e1
  exact q
 ·obtain ⟨b,e1,_,_,q⟩:=h2
  cases e1
  exact q
theorem zNl (R:Rel K B env σ Hk H) {brw:Bool} {io:Option Nat} {rs:List Res} {ins:Sl} {vs:List V} (h:zDz brw io env 0 rs=some ins) (hr:RsAll K σ Hk rs vs) {k:Nat} {a:Addr} (e:ioA ins vs k=some a):
  io=some k∧∃j s c,ins[k]?=some (.io k c)∧rs[k]?=some (.slt j)∧env[j]?=some s∧s.mut∧(s=.own c∨∃l,s=.io l c)∧σ[j]?=some (some (V.ref a))∧vs[k]?=some (.ref a):=by
 obtain ⟨l,c,e1,e2⟩:=zFD e
 obtain ⟨rfl,hio,j,s,g1,g2,g3,g4⟩:=zFM h e1
 obtain ⟨r,q1,q2⟩:=hr.get l _ e2
 rw [g1] at q1
 cases q1
 exact ⟨hio,j,s,c,e1,g1,g2,g3,g4,q2,e2⟩
theorem zJS {io:Option Nat} {rs:List Res} {outs e2:Sl} (h:zBH io env rs outs=some e2):(io=none∧e2=env)∨∃q i k c s,io=some q∧rs[q]?=some (.slt i)∧outs[q]?=some (.io k c)∧env[i]?=some s∧e2=env.set i (s.put c):=by
 cases io with
 |none=>
  cases h
  exact .inl ⟨rfl,rfl⟩
 |some q=>
  cases h1:rs[q]? with
  |none=>simp only [zBH,h1] at h;cases h
  |some r=>
   cases r with
   |dat d=>simp only [zBH,h1] at h;cases h
   |new d=>simp only [zBH,h1] at h;cases h
   |pv p=>simp only [zBH,h1] at h;cases h
   |slt i=>
    cases h2:outs[q]? with
    |none=>simp only [zBH,h1,h2] at h;cases h
    |some s=>
     cases s with
     |no=>simp only [zBH,h1,h2] at h;cases h
     |val d=>simp only [zBH,h1,h2] at h;cases h
     |own d=>simp only [zBH,h1,h2] at h;cases h
     |scr d=>simp only [zBH,h1,h2] at h;cases h
     |pin a=>simp only [zBH,h1,h2] at h;cases h
     |pv p=>simp only [zBH,h1,h2] at h;cases h
     |sto M=>simp only [zBH,h1,h2] at h;cases h
     |io k c=>
      cases h3:env[i]? with
      |none=>simp only [zBH,h1,h2,h3] at h;cases h
      |some s=>
       simp only [zBH,h1,h2,h3] at h
       cases h
       exact .inr ⟨q,i,k,c,s,rfl,h1,h2,h3,rfl⟩
theorem zKP {brw:Bool} {io:Option Nat} {rs:List Res} {ins:Sl} {vs:List V} (h:zDz brw io env 0 rs=some ins) (hr:RsAll K σ Hk rs vs):ins.length=vs.length:=by
 rw [(zDm h).1,hr.len]
theorem zNk {brw:Bool} {q:Nat} {rs:List Res} {ins:Sl} {i:Nat} (h:zDz brw (some q) env 0 rs=some ins) (hq:rs[q]?=some (.slt i)):∃c s,ins[q]?=some (.io q c)∧env[i]?=some s∧s.mut:=by
 obtain ⟨s,q1,q2⟩:=(zDm h).2 q _ hq
 rw [Nat.zero_add] at q2
 unfold argV at q2;rw [if_pos rfl] at q2
 cases ej:env[i]? with
 |none=>simp only [ej] at q2;cases q2
 |some s2=>
  simp only [ej] at q2
  cases s2 with
  |no=>cases q2
  |val d=>cases q2
  |scr d=>cases q2
  |pin a=>cases q2
  |pv p=>cases q2
  |sto M=>cases q2
  |own c2=>
   cases q2
   exact ⟨_,_,q1,rfl,trivial⟩
  |io l c2=>
   cases q2
   exact ⟨_,_,q1,rfl,trivial⟩
theorem Rel.after (R:Rel K B env σ Hk H) {brw:Bool} {io:Option Nat} {rs:List Res} {ins outs e2:Sl} {vs:List V} {Hk2:Hp} (h:zDz brw io env 0 rs=some ins) (hr:RsAll K σ Hk rs vs) (hb:zBH io env rs outs=some e2)
  (kn:Same Hk Hk2) (ex:Same Hk2 H') (fr:∀a,Hk2 a≠none→Hk a=none→H a=none) (kp:∀a o,H a=some o→(∀k,ioA ins vs k≠some a)→H' a=some o)
  (hio:∀k a c',ioA ins vs k=some a→outs[k]?=some (.io k c')→CellAt K Hk2 H' a c') (hk:∀k a,ioA ins vs k=some a→∃c',outs[k]?=some (.io k c')):Rel K B e2 σ ⟨Hk2,Hk.P⟩ H':=by
 rcases zJS hb with ⟨rfl,rfl⟩|⟨q,i,k,c,s,rfl,h1,h2,h3,rfl⟩
 ·refine R.grow (Hk':=⟨Hk2,Hk.P⟩) kn ex (zGP kp fun k=>?_) fr
  cases e:ioA ins vs k with
  |none=>rfl
  |some a=>cases (zNl R h hr e).1
 ·obtain ⟨c0,s0,g1,g2,g3⟩:=zNk h h1
  rw [h3] at g2
  cases g2
  obtain ⟨a,e1,_,_,_⟩:=R.mutAt h3 g3
  have hql:q<vs.length:=by
   rw [←hr.len];exact (oE.mp h1).1
  obtain ⟨r,z1,z2⟩:=hr.get q _ (oF hql)
  rw [h1] at z1
  cases z1
  have z2:σ[i]?=some (some vs[q]):=z2
  rw [e1] at z2
  have hv:vs[q]?=some (.ref a):=by
   rw [oF hql];exact congrArg some (oG (oG z2)).symm
  have hA:ioA ins vs q=some a:=zJx g1 hv
  obtain ⟨c',h4⟩:=hk q a hA
  rw [h2] at h4
  cases h4
  refine R.called (Hk':=⟨Hk2,Hk.P⟩) kn rfl ex fr h3 g3 e1 (fun b o hb hne=>kp b o hb fun k z=>?_) (hio q a c hA h2)
  have:=(zNl R h hr z).1
  cases this
  rw [hA] at z
  exact hne (oG z).symm
theorem zNx {brw:Bool} {io:Option Nat} {i:Nat} {r:Res} {s:Slot} (hio:io≠some i) (h:argV brw io env i r=some s):
  (∃d,r=.dat d∧s=.val d)∨(∃p d,r=.pv p∧s=.val d∧((brw=true∧p.deep (sto env) 9=some d)∨(brw=false∧p.kn (sto env)=some d)))∨∃j,r=.slt j∧((∃d,env[j]?=some (.val d)∧s=.val d)∨(∃ns,env[j]?=some (.scr ns)∧s=.scr ns)∨(brw=true∧∃ds t,env[j]?=some t∧t.mut∧(t=.own ds∨∃l,t=.io l ds)∧s=.val (Cell.dat ds))):=by
 unfold argV at h;rw [if_neg hio] at h
 cases r with
 |dat d=>
  cases h
  exact .inl ⟨d,rfl,rfl⟩
 |new d=>cases h
 |pv p=>
  refine .inr (.inl ⟨p,?_⟩)
  cases brw with
  |true=>
   obtain ⟨d,h1,rfl⟩:=oD.mp h
   exact ⟨d,rfl,rfl,.inl ⟨rfl,h1⟩⟩
  |false=>
   obtain ⟨d,h1,rfl⟩:=oD.mp h
   exact ⟨d,rfl,rfl,.inr ⟨rfl,h1⟩⟩
 |slt j=>
  refine .inr (.inr ⟨j,rfl,?_⟩)
  cases ej:env[j]? with
  |none=>simp only [ej] at h;cases h
  |some t=>
   simp only [ej] at h
   cases t with
   |no=>cases h
   |val d=>
    cases h
    exact .inl ⟨d,rfl,rfl⟩
   |scr ns=>
    cases h
    exact .inr (.inl ⟨ns,rfl,rfl⟩)
   |pin a=>cases h
   |pv p=>cases h
   |sto M=>cases h
   |own c=>
    cases brw with
    |true=>
     cases h
     exact .inr (.inr ⟨rfl,c,_,rfl,trivial,.inl rfl,rfl⟩)
    |false=>cases h
   |io l c=>
    cases brw with
    |true=>
     cases h
     exact .inr (.inr ⟨rfl,c,_,rfl,trivial,.inr ⟨l,rfl⟩,rfl⟩)
    |false=>cases h
theorem zJU (R:Rel K B env σ Hk H) {brw:Bool} {io:Option Nat} {rs:List Res} {ins:Sl} {vs:List V} {Hl:Hp} (sm:Same Hk Hl) (hn:∀i j s a,io=some i→rs[i]?=some (.slt j)→env[j]?=some s→s.mut→σ[j]?=some (some (V.ref a))→Hl a=none)
  (hl:∀i j s a,brw=true→io≠some i→rs[i]?=some (.slt j)→env[j]?=some s→s.mut→σ[j]?=some (some (V.ref a))→Hl a=H a) (hp:brw=true→∀n a,Hk.P n=some a→Hl a=H a) (h:zDz brw io env 0 rs=some ins) (hr:RsAll K σ Hk rs vs):ArgsOk K Hl H ins vs where
 len:=zKP h hr
 arg:=fun i s v e1 e2=>by
  obtain ⟨r,q1,q2⟩:=hr.get i v e2
  obtain ⟨s',z1,z2⟩:=(zDm h).2 i r q1
  rw [e1] at z1
  cases z1
  rw [Nat.zero_add] at z2
  by_cases hio:io=some i
  ·cases s with
   |io k c=>
    obtain ⟨_,_,j,s2,g1,g2,g3,g4⟩:=zFM h e1
    rw [q1] at g1
    cases g1
    obtain ⟨a,w1,w2,w3,_⟩:=R.mutAt g2 g3
    have q2:σ[j]?=some (some v):=q2
    have:v=.ref a:=by rw [w1] at q2;exact (oG (oG q2)).symm
    subst this;exact ⟨a,rfl,hn i j s2 a hio q1 g2 g3 w1,(CellAt.slot R g2 g4 w1).mono sm fun o z=>z⟩
   |_=>
    unfold argV at z2;rw [if_pos hio] at z2
    cases r with
    |dat d=>cases z2
    |new d=>cases z2
    |pv p=>cases brw<;>simp at z2
    |slt j=>
     cases ej:env[j]? with
     |none=>simp only [ej] at z2;cases z2
     |some s=>simp only [ej] at z2;cases s<;>simp at z2
  ·rcases zNx hio z2 with ⟨d,rfl,rfl⟩|⟨p,d,rfl,rfl,⟨hb,hd⟩|⟨hb,hd⟩⟩|⟨j,rfl,⟨d,ej,rfl⟩|⟨ns,ej,rfl⟩|⟨hb,ds,t,ej,tm,tc,rfl⟩⟩
   ·exact zAG sm _ _ q2
   ·exact R.deepP sm (fun n c a _ _ h=>hp hb n a h) 9 q2 hd
   ·exact zAG sm _ _ (R.knP q2 hd)
   ·have q2:σ[j]?=some (some v):=q2
    obtain ⟨o,w1,w2⟩:=R.slot j _ ej
    rw [q2] at w1
    cases w1
    obtain ⟨v',x1,x2⟩:=w2
    cases x1
    exact zAG sm _ _ x2
   ·have q2:σ[j]?=some (some v):=q2
    obtain ⟨o,w1,w2⟩:=R.slot j _ ej
    rw [q2] at w1
    cases w1
    obtain ⟨a,x1,x2⟩:=w2
    cases x1
    exact ⟨a,rfl,sm.seq x2⟩
   ·have q2:σ[j]?=some (some v):=q2
    obtain ⟨a,w1,w2,w3,_⟩:=R.mutAt ej tm
    have:v=.ref a:=by rw [w1] at q2;exact (oG (oG q2)).symm
    subst this;obtain ⟨ob,y1,y2⟩:=(CellAt.slot R ej tc w1).obj
    refine y2 Hl sm ?_;rw [hl i j t a hb hio q1 ej tm w1];exact y1
 ix:=fun i k c e=>(zFM h e).1
 sep:=fun i j k l c c' a e1 e2 _ _=>by
  have h1:=(zFM h e1).2.1
  have h2:=(zFM h e2).2.1
  rw [h1] at h2
  exact oG h2
theorem zFl (R:Rel K B env σ Hk H) {io:Option Nat} {rs:List Res} {outs e2:Sl} (hb:zBH io env rs outs=some e2) {a:Addr} (ha:H a=none):∀(j:Nat) s,e2[j]?=some s→s.mut→σ[j]?≠some (some (V.ref a)):=fun j s hj hm z=>by
 rcases zJS hb with ⟨_,rfl⟩|⟨q,i,k',c',s',_,_,_,g3,rfl⟩
 ·exact R.mutNe ha hj hm z
 ·rcases zAv hj with ⟨rfl,rfl⟩|⟨_,hj⟩
  ·exact R.mutNe ha g3 (by cases s'<;>exact hm) z
  ·exact R.mutNe ha hj hm z
theorem zHr {fm:FM} {io:Option Nat} {ms:MA} {Q:VK} (h:tE K (zDD fm io ms) σ H Q):tCall (spF K fm) [] E0 (tA K ms) σ H Q:=by
 obtain ⟨B,env,Hk,res,env',R,hm,k⟩:=h
 obtain ⟨⟨rs,e1⟩,h1,hm⟩:=oC.mp hm
 obtain ⟨ins,h2,hm⟩:=oC.mp hm
 obtain ⟨⟨r,outs⟩,h3,hm⟩:=oC.mp hm
 obtain ⟨e2,h4,hm⟩:=oD.mp hm
 cases hm
 refine ⟨B,env,Hk,rs,e1,R,h1,fun vs Hk1 H1 R1 s1 o1=>?_⟩
 show spF K fm (vs++[]) H1 Q E0
 rw [oZ];have A:ArgsOk K Hk1 H1 ins vs:=zJU R1 (.refl _) (fun i j s a _ _ g1 g2 g3=>by
  obtain ⟨b,w1,w2,_⟩:=R1.mutAt g1 g2
  rw [g3] at w1
  cases w1
  exact w2) (fun i j s a z=>by cases z) (fun z=>by cases z) h2 o1
 refine ⟨Hk1,ins,r,outs,R1.ex,A,h3,fun v Hk2 H2 p=>?_⟩
 have R2:Rel K B env' σ ⟨Hk2,Hk1.P⟩ H2:=R1.after h2 o1 h4 p.kn p.ex p.fr p.kp (fun k a c' e1 e2=>by
  obtain ⟨c2,g1,_,g2⟩:=p.io k a e1
  rw [e2] at g1
  cases g1
  exact g2) fun k a e=>let ⟨c2,g1,_⟩:=p.io k a e;⟨c2,g1⟩
 refine k v _ H2 R2 (s1.trans ⟨p.kn,fun _ _ z=>z⟩) ?_;have hres:=p.res
 cases r with
 |dat d=>exact hres
 |slt i=>cases hres
 |pv p=>cases hres
 |new c=>
  obtain ⟨a,rfl,q1,q2,q3⟩:=hres
  exact ⟨a,rfl,q1,R1.fresh0 q2,q3,R1.pfree q2,zFl R1 h4 q2⟩
theorem zHV {Hk:Hp} {d:PyData} {v:V} (h:flatD d=true) (q:Dv K Hk v d) (Hk2:Hp):Dv K Hk2 v d:=by
 cases q with
 |non=>exact .non
 |bl b=>exact .bl b
 |int i=>exact .int i
 |str x=>exact .str x
 |lst _ _=>cases h
 |tup _ _=>cases h
 |dct _ _=>cases h
theorem zGE {Hk:Hp} (Hk2:Hp):∀{ds:List (PyData×PyData)} {vs:List (Key×V)},(ds.all fun p=>flatD p.2)=true→DvKv K Hk vs ds→DvKv K Hk2 vs ds
 |_,_,_,.nil=>.nil
 |_,_,h,.cons h1 h2=>by
  simp only [List.all_cons,oS] at h
  exact .cons (zHV h.1 h1 Hk2) (zGE Hk2 h.2 h2)
theorem zGF {Hk:Hp} (Hk2:Hp):∀{ds:List PyData} {vs:List V},ds.all flatD=true→DvAll K Hk vs ds→DvAll K Hk2 vs ds
 |[],_,_,.nil=>.nil
 |d::ds,_,h,.cons h1 h2=>by
  simp only [List.all_cons,oS] at h
  exact .cons (zHV h.1 h1 Hk2) (zGF Hk2 h.2 h2)
open Classical in
noncomputable def lent (rs:List Res) (io:Option Nat) (env:Sl) (σ:St) (Hk:Kn) (H:Hp):Hp:=fun a=>if (∃(p:Nat) (j:Nat) (s:Slot),rs[p]?=some (.slt j)∧io≠some p∧env[j]?=some s∧s.mut∧σ[j]?=some (some (V.ref a)))∨∃n,Hk.P n=some a then H a else Hk a
theorem zJs (R:Rel K B env σ Hk H) {rs:List Res} {io:Option Nat}:Same Hk (lent rs io env σ Hk H):=fun a o e=>by
 unfold lent;split
 ·exact R.ex _ _ e
 ·exact e
theorem zLS (s:Same Hk H) {rs:List Res} {io:Option Nat}:Same (lent rs io env σ Hk H) H:=fun a o e=>by
 unfold lent at e
 split at e
 ·exact e
 ·exact s a o e
theorem zLR (R:Rel K B env σ Hk H) {rs:List Res} {io:Option Nat} (hL:zEF io rs=true) (i j:Nat) (s:Slot) (a:Addr) (hio:io=some i) (h1:rs[i]?=some (.slt j)) (h2:env[j]?=some s) (h3:s.mut) (h4:σ[j]?=some (some (V.ref a))):lent rs io env σ Hk H a=none:=by
 obtain ⟨b,w1,w2,_⟩:=R.mutAt h2 h3
 rw [h4] at w1
 cases w1
 unfold lent;rw [if_neg]
 ·exact w2
 ·rintro (⟨p,j',s',x1,x2,x3,x4,x5⟩|⟨n,x⟩)
  rotate_left
  ·exact R.psep j s a n h2 h3 h4 x
  have hp:p<rs.length:=(oE.mp x1).1
  subst hio;simp only [zEF,h1,List.all_eq_true,List.mem_range,Bool.or_eq_true,beq_iff_eq] at hL
  rcases hL p hp with y|y
  ·exact x2 (by rw [y])
  ·rw [x1] at y
   simp only [bne_iff_ne,ne_eq] at y
   exact y (R.sep j' j s' s a x3 h2 x4 h3 x5 h4)
theorem zJR {fm:FM} {io:Option Nat} {ms:MA} {Q:VK} (h:tE K (zAs fm io ms) σ H Q):tCall (spF K fm) [] E0 (tA K ms) σ H Q:=by
 obtain ⟨B,env,Hk,res,env',R,hm,k⟩:=h
 obtain ⟨⟨rs,e1⟩,h1,hm⟩:=oC.mp hm
 by_cases hL:zEF io rs=true
 ·have hm:(if zEF io rs=true then _ else _)=some (res,env'):=hm
  rw [if_pos hL] at hm
  obtain ⟨ins,h2,hm⟩:=oC.mp hm
  obtain ⟨⟨r,outs⟩,h3,hm⟩:=oC.mp hm
  by_cases hF:(flatR r&&outs.all flatS)=true
  ·have hm:(if (flatR r&&outs.all flatS)=true then _ else _)=some (res,env'):=hm
   rw [if_pos hF] at hm
   obtain ⟨e2,h4,hm⟩:=oD.mp hm
   cases hm
   rw [oS] at hF
   refine ⟨B,env,Hk,rs,e1,R,h1,fun vs Hk1 H1 R1 s1 o1=>?_⟩
   show spF K fm (vs++[]) H1 Q E0
   rw [oZ];have sm:Same Hk1 (lent rs io e1 σ Hk1 H1):=zJs R1
   have A:ArgsOk K (lent rs io e1 σ Hk1 H1) H1 ins vs:=zJU R1 sm (zLR R1 hL) (fun i j s a _ g0 g1 g2 g3 g4=>by
    unfold lent;rw [if_pos (.inl ⟨i,j,s,g1,g0,g2,g3,g4⟩)]) (fun _ n a g=>by
    unfold lent;rw [if_pos (.inr ⟨n,g⟩)]) h2 o1
   refine ⟨_,ins,r,outs,zLS R1.ex,A,h3,fun v Hk2 H2 p=>?_⟩
   have R2:Rel K B env' σ Hk1 H2:=R1.after h2 o1 h4 (.refl _) ((sm.trans p.kn).trans p.ex) (fun a g1 g2=>absurd g2 g1) p.kp (fun k a c' e1 e2=>by
    obtain ⟨c2,g1,_,g2⟩:=p.io k a e1
    rw [e2] at g1
    cases g1
    have hfl:=List.all_eq_true.mp hF.2 _ (oU e2)
    cases c' with
    |lst ds=>
     obtain ⟨xs,y1,y2⟩:=g2
     exact ⟨xs,y1,zGF Hk1 hfl y2⟩
    |dct es=>
     obtain ⟨xs,y1,y2⟩:=g2
     exact ⟨xs,y1,zGE Hk1 hfl y2⟩) fun k a e=>let ⟨c2,g1,_⟩:=p.io k a e;⟨c2,g1⟩
   refine k v Hk1 H2 R2 s1 ?_;have hres:=p.res
   have hfr:=hF.1
   cases r with
   |dat d=>exact zHV hfr hres Hk1
   |slt i=>cases hres
   |pv p=>cases hres
   |new c=>
    cases c with
    |lst ds=>
     obtain ⟨a,rfl,q1,q2,xs,y1,y2⟩:=hres
     exact ⟨a,rfl,R1.kfree q2,R1.fresh0 q2,⟨xs,y1,zGF Hk1 hfr y2⟩,R1.pfree q2,zFl R1 h4 q2⟩
    |dct es=>
     obtain ⟨a,rfl,q1,q2,xs,y1,y2⟩:=hres
     exact ⟨a,rfl,R1.kfree q2,R1.fresh0 q2,⟨xs,y1,zGE Hk1 hfr y2⟩,R1.pfree q2,zFl R1 h4 q2⟩
  ·have hm:(if (flatR r&&outs.all flatS)=true then _ else _)=some (res,env'):=hm
   rw [if_neg hF] at hm
   cases hm
 ·have hm:(if zEF io rs=true then _ else _)=some (res,env'):=hm
  rw [if_neg hL] at hm
  cases hm
end
section
variable {X:Cx} {k:Nat} {f:Addr} {fd:FuncData} {ps:List Str} {fm:FM} {x:Str} {p pos:Pos} {e:Expr} {es:List Expr} {ms:MA}
theorem zEV (io:Option Nat) (F:FnOk X.prog X.w X.K X.mg X.base CX0 k f fd ps (spF X.K fm)) (hr:Room k X.A) (hm:X.mg x=some (.ref f)) (hk:PySem.W.keepIn X.K (.ref f)=true) (hb:Binds X.K fd ps [])
  (ha:VA X (e::es) ms) (hg:Gl X x:=by rfl) (hdb:(x==("__debug__":Str))=false:=by decide) (he:starEach (e::es) X.env=(false,eval e X.env)::starEach es X.env:=by rfl) (hpl:(backTo pos (starEach es X.env)).any (·.1)=false:=by rfl):
  VE X (.Call (.Name x p) (e::es) [] pos) (zDD fm io ms):=(pe_call F hr hg hm hk hb .nil pass0 ha hdb he hpl).imp fun _ _ _=>zHr
theorem zAj (io:Option Nat) (F:FnOk X.prog X.w X.K X.mg X.base CX0 k f fd ps (spF X.K fm)) (hr:Room k X.A) (hm:X.mg x=some (.ref f)) (hk:PySem.W.keepIn X.K (.ref f)=true) (hb:Binds X.K fd ps [])
  (ha:VA X (e::es) ms) (hg:Gl X x:=by rfl) (hdb:(x==("__debug__":Str))=false:=by decide) (he:starEach (e::es) X.env=(false,eval e X.env)::starEach es X.env:=by rfl) (hpl:(backTo pos (starEach es X.env)).any (·.1)=false:=by rfl):
  VE X (.Call (.Name x p) (e::es) [] pos) (zAs fm io ms):=(pe_call F hr hg hm hk hb .nil pass0 ha hdb he hpl).imp fun _ _ _=>zJR
end
end Cm
namespace Cm
open PySem L2
section
variable {X:Cx} {K:oB}
theorem zG5 {f:Value→Value→Sem Value} {r r':R2} (h:OpR X f r) (h':OpR X f r'):OpR X f (fun x y H Q=>r x y H Q∨r' x y H Q):=by
 intro pins s σ H x y v u Q I rx ry q
 rcases q with q|q
 ·exact h pins s σ H x y v u Q I rx ry q
 ·exact h' pins s σ H x y v u Q I rx ry q
def gAdd:PyData→PyData→Option Res
 |.int i,.int j=>some (.dat (.int (i+j)))
 |.str x,.str y=>if x.length+y.length≤100000 then some (.dat (.str (x++y))) else none
 |.list xs,.list ys=>if xs.length+ys.length≤100000 then some (.new (.lst (xs++ys))) else none
 |_,_=>none
def zMU:R2:=fun x y H Q=>(rI0 (fun i j=>.int (i+j)) x y H Q)∨((∃i j,x=.str i∧y=.str j∧i.length+j.length≤sizeLine∧Q (.str (i++j)) H)∨rCat x y H Q)
theorem zAW:OpR X (binaryOp .Add) zMU:=zG5 op_add (zG5 op_add_str op_cat)
theorem zAX:OpD K zMU gAdd:=by
 intro Hk H x y dx dy res Q e vx vy h q
 unfold gAdd at h
 split at h
 ·cases h
  exact .inl ⟨_,_,vx.int,vy.int,q _ _ (.inl ⟨rfl,.int _⟩)⟩
 ·split at h
  ·rename_i hz
   cases h
   exact .inr (.inl ⟨_,_,vx.str,vy.str,zFQ hz,q _ _ (.inl ⟨rfl,.str _⟩)⟩)
  ·cases h
 ·split at h
  ·rename_i hz
   cases h
   obtain ⟨a,vs,rfl,h1,h2⟩:=vx.list e
   obtain ⟨b,ws,rfl,h3,h4⟩:=vy.list e
   exact .inr (.inr ⟨a,b,vs,ws,rfl,rfl,h1,h3,by rw [h2.len,h4.len];exact zFQ hz,fun p hp=>q _ _ ⟨p,_,rfl,hp,rfl,h2.append h4⟩⟩)
  ·cases h
 ·cases h
def zHh:PyData→PyData→Option Res
 |.int i,.int j=>some (.dat (.int (i - j)))
 |_,_=>none
theorem zK8:OpD K (rI0 (fun i j=>.int (i - j))) zHh:=by
 intro Hk H x y dx dy res Q e vx vy h q
 unfold zHh at h
 split at h
 ·cases h
  exact ⟨_,_,vx.int,vy.int,q _ _ (.inl ⟨rfl,.int _⟩)⟩
 ·cases h
def repD (ds:List PyData) (k:Int):List PyData:=(List.replicate k.toNat ds).flatten
def gMul:PyData→PyData→Option Res
 |.int i,.int j=>if (-(2 ^ 64)<i∧i<2 ^ 64)∨(-(2 ^ 64)<j∧j<2 ^ 64) then some (.dat (.int (i*j))) else none
 |.list ds,.int k=>if -(2 ^ 63)≤k∧k<2 ^ 63∧ds.length*k.toNat≤100000 then some (.new (.lst (repD ds k))) else none
 |_,_=>none
def zMT:R2:=fun x y H Q=>rI CMul (fun i j=>.int (i*j)) x y H Q∨rRep x y H Q
theorem zBA:OpR X (binaryOp .Mult) zMT:=zG5 op_mul op_rep
theorem zLi {Hk:Hp} {vs:List V} {ds:List PyData} (h:DvAll K Hk vs ds):∀n:Nat,DvAll K Hk (List.replicate n vs).flatten (List.replicate n ds).flatten
 |0=>.nil
 |n+1=>by
  rw [List.replicate_succ,List.replicate_succ,List.flatten_cons,List.flatten_cons];exact h.append (zLi h n)
theorem zBB:OpD K zMT gMul:=by
 intro Hk H x y dx dy res Q e vx vy h q
 unfold gMul at h
 split at h
 ·split at h
  ·rename_i hz
   cases h
   exact .inl ⟨_,_,vx.int,vy.int,hz,q _ _ (.inl ⟨rfl,.int _⟩)⟩
  ·cases h
 ·split at h
  ·rename_i hz
   cases h
   obtain ⟨a,vs,rfl,h1,h2⟩:=vx.list e
   exact .inr ⟨a,_,vs,rfl,vy.int,h1,hz.1,hz.2.1,by rw [h2.len];exact zFQ hz.2.2,fun p hp=>q _ _ ⟨p,_,rfl,hp,rfl,zLi h2 _⟩⟩
  ·cases h
 ·cases h
def gDiv:PyData→PyData→Option Res
 |.int i,.int j=>if 0<j∧j<1073741824 then some (.dat (.int (i / j))) else none
 |_,_=>none
theorem zC5:OpD K (rI CDiv (fun i j=>.int (i / j))) gDiv:=by
 intro Hk H x y dx dy res Q e vx vy h q
 unfold gDiv at h
 split at h
 ·split at h
  ·rename_i hz
   cases h
   exact ⟨_,_,vx.int,vy.int,hz,q _ _ (.inl ⟨rfl,.int _⟩)⟩
  ·cases h
 ·cases h
def gMod:PyData→PyData→Option Res
 |.int i,.int j=>if 0<j then some (.dat (.int (i % j))) else none
 |_,_=>none
theorem zBR:OpD K (rI (fun _ j=>0<j) (fun i j=>.int (i % j))) gMod:=by
 intro Hk H x y dx dy res Q e vx vy h q
 unfold gMod at h
 split at h
 ·split at h
  ·rename_i hz
   cases h
   exact ⟨_,_,vx.int,vy.int,hz,q _ _ (.inl ⟨rfl,.int _⟩)⟩
  ·cases h
 ·cases h
def gPow:PyData→PyData→Option Res
 |.int i,.int j=>if 0≤j∧j≤1000000∧i.natAbs<2 ^ 64 then some (.dat (.int (i ^ j.toNat))) else none
 |_,_=>none
theorem zJg:OpD K (rI CPow (fun i j=>.int (i ^ j.toNat))) gPow:=by
 intro Hk H x y dx dy res Q e vx vy h q
 unfold gPow at h
 split at h
 ·split at h
  ·rename_i hz
   cases h
   exact ⟨_,_,vx.int,vy.int,hz,q _ _ (.inl ⟨rfl,.int _⟩)⟩
  ·cases h
 ·cases h
def gNeg:PyData→Option Res
 |.int i=>some (.dat (.int (-i)))
 |_=>none
theorem zC2:UnD K (rU fun i=>.int (-i)) gNeg:=by
 intro Hk H x dx res Q e vx h q
 unfold gNeg at h
 split at h
 ·cases h
  exact ⟨_,vx.int,q _ _ (.inl ⟨rfl,.int _⟩)⟩
 ·cases h
def gCmp (p:Int→Int→Bool):PyData→PyData→Option Res
 |.int i,.int j=>some (.dat (.bool (p i j)))
 |_,_=>none
theorem zBW {p:Int→Int→Bool}:OpD K (rI0 fun i j=>.bl (p i j)) (gCmp p):=by
 intro Hk H x y dx dy res Q e vx vy h q
 unfold gCmp at h
 split at h
 ·cases h
  exact ⟨_,_,vx.int,vy.int,q _ _ (.inl ⟨rfl,.bl _⟩)⟩
 ·cases h
def zGn:PyData→PyData→Bool
 |.none,.none=>true|.none,.int _=>true|.int _,.none=>true|.none,.bool _=>true|.bool _,.none=>true|.none,.str _=>true|.str _,.none=>true
 |.int _,.int _=>true|.bool _,.bool _=>true|.str _,.str _=>true
 |.int _,.str _=>true|.str _,.int _=>true|.bool _,.str _=>true|.str _,.bool _=>true
 |_,_=>false
def gEq (neg:Bool) (dx dy:PyData):Option Res:=if (zGn dx dy||(SeqAt.shaped dx&&SeqAt.shaped dy))=true then some (.dat (.bool (neg ^^ PyData.eqv dx dy))) else none
def rEqU (K:oB):R2:=fun x y H Q=>rEq x y H Q∨rEqD K x y H Q
def rNeU (K:oB):R2:=fun x y H Q=>rNe x y H Q∨rNeD K x y H Q
theorem zFp (hu:X.A.units+64<cLine):OpR X (compareOp .Eq) (rEqU X.K):=zG5 op_eq (op_eqD hu)
theorem zG4 (hu:X.A.units+64<cLine):OpR X (compareOp .NotEq) (rNeU X.K):=zG5 op_ne (op_neD hu)
theorem zI9 {Hk H:Hp} {x y:V} {dx dy:PyData} (vx:View K Hk H x dx) (vy:View K Hk H y dy) (h:zGn dx dy=true):scal x y=true∧decide (x=y)=PyData.eqv dx dy:=by
 cases dx with
 |none=>
  rw [vx.non];cases dy with
  |none=>rw [vy.non];exact ⟨rfl,rfl⟩
  |int j=>rw [vy.int];exact ⟨rfl,rfl⟩
  |bool j=>rw [vy.bool];exact ⟨rfl,rfl⟩
  |str j=>rw [vy.str];exact ⟨rfl,rfl⟩
  |_=>cases h
 |int i=>
  rw [vx.int];cases dy with
  |none=>rw [vy.non];exact ⟨rfl,rfl⟩
  |int j=>rw [vy.int];exact ⟨rfl,dec_int⟩
  |str j=>rw [vy.str];exact ⟨rfl,rfl⟩
  |_=>cases h
 |bool i=>
  rw [vx.bool];cases dy with
  |none=>rw [vy.non];exact ⟨rfl,rfl⟩
  |bool j=>rw [vy.bool];exact ⟨rfl,dec_bl⟩
  |str j=>rw [vy.str];exact ⟨rfl,rfl⟩
  |_=>cases h
 |str i=>
  rw [vx.str];cases dy with
  |none=>rw [vy.non];exact ⟨rfl,rfl⟩
  |int j=>rw [vy.int];exact ⟨rfl,rfl⟩
  |bool j=>rw [vy.bool];exact ⟨rfl,rfl⟩
  |str j=>rw [vy.str];exact ⟨rfl,dec_str⟩
  |_=>cases h
 |list _=>cases dy<;>cases h
 |tuple _=>cases dy<;>cases h
 |dict _=>cases dy<;>cases h
theorem zFu:OpD K (rEqU K) (gEq false):=by
 intro Hk H x y dx dy res Q e vx vy h q
 unfold gEq at h
 split at h
 ·rename_i hz
  cases h
  rw [Bool.false_xor] at q
  rcases Bool.or_eq_true_iff.mp hz with hz|hz
  ·obtain ⟨h1,h2⟩:=zI9 vx vy hz
   refine .inl ⟨h1,?_⟩
   rw [h2];exact q _ _ (.inl ⟨rfl,.bl _⟩)
  ·rw [oS] at hz
   exact .inr ⟨dx,dy,(vx.dv e).dp _ _ (SeqAt.canLay_of_shaped hz.1),(vy.dv e).dp _ _ (SeqAt.canLay_of_shaped hz.2),hz.1,hz.2,q _ _ (.inl ⟨rfl,.bl _⟩)⟩
 ·cases h
theorem zG8:OpD K (rNeU K) (gEq true):=by
 intro Hk H x y dx dy res Q e vx vy h q
 unfold gEq at h
 split at h
 ·rename_i hz
  cases h
  rw [Bool.true_xor] at q
  rcases Bool.or_eq_true_iff.mp hz with hz|hz
  ·obtain ⟨h1,h2⟩:=zI9 vx vy hz
   refine .inl ⟨h1,?_⟩
   rw [h2];exact q _ _ (.inl ⟨rfl,.bl _⟩)
  ·rw [oS] at hz
   exact .inr ⟨dx,dy,(vx.dv e).dp _ _ (SeqAt.canLay_of_shaped hz.1),(vy.dv e).dp _ _ (SeqAt.canLay_of_shaped hz.2),hz.1,hz.2,q _ _ (.inl ⟨rfl,.bl _⟩)⟩
 ·cases h
def zDh:PyData→Bool
 |.none=>true
 |_=>false
def gIsN (neg:Bool):PyData→PyData→Option Res
 |d,.none=>some (.dat (.bool (neg ^^ zDh d)))
 |_,_=>none
theorem isN_v {Hk H:Hp} {x:V} {dx:PyData} (vx:View K Hk H x dx) (e:Same Hk H):decide (x=.non)=zDh dx:=by
 have h:=vx.dv e
 cases h<;>rfl
theorem zG9:OpD K (fun x y H Q=>y=.non∧Q (.bl (decide (x=.non))) H) (gIsN false):=by
 intro Hk H x y dx dy res Q e vx vy h q
 unfold gIsN at h
 split at h
 ·cases h
  refine ⟨vy.non,?_⟩
  rw [isN_v vx e];rw [Bool.false_xor] at q
  exact q _ _ (.inl ⟨rfl,.bl _⟩)
 ·cases h
def gIx:PyData→PyData→Option Res
 |.list ds,.int i=>(atI ds i).map .dat
 |.tuple ds,.int i=>(atI ds i).map .dat
 |.str z,.int i=>if z.length≤100000 then (atI z.cps.toList i).map fun c=>.dat (.str ⟨#[c]⟩) else none
 |_,_=>none
theorem zNw {Hk:Hp} {vs:List V} {ds:List PyData} (h:DvAll K Hk vs ds) {i:Int} {d:PyData} (e:atI ds i=some d):∃v,atI vs i=some v∧Dv K Hk v d:=by
 unfold atI at e ⊢
 rw [h.len];obtain ⟨j,h1,h2⟩:=oC.mp e
 obtain ⟨v,h3,h4⟩:=h.get j d h2
 exact ⟨v,by rw [h1];exact h3,h4⟩
theorem zAZ:OpD K (rIx K) gIx:=by
 intro Hk H x y dx dy res Q e vx vy h q
 unfold gIx at h
 split at h
 ·obtain ⟨d,h1,rfl⟩:=oD.mp h
  obtain ⟨a,vs,rfl,g1,g2⟩:=vx.list e
  obtain ⟨v,g3,g4⟩:=zNw g2 h1
  exact .inl ⟨a,vs,_,v,rfl,vy.int,SqL.of g1,g3,q _ _ (.inl ⟨rfl,g4⟩)⟩
 ·obtain ⟨d,h1,rfl⟩:=oD.mp h
  obtain ⟨a,vs,rfl,g1,g2⟩:=vx.tup e
  obtain ⟨v,g3,g4⟩:=zNw g2 h1
  exact .inr (.inl ⟨a,vs,_,v,rfl,vy.int,g1,g3,q _ _ (.inl ⟨rfl,g4⟩)⟩)
 ·split at h
  ·rename_i hz
   obtain ⟨c,h1,rfl⟩:=oD.mp h
   exact .inr (.inr ⟨_,_,c,vx.str,vy.int,zFQ hz,h1,q _ _ (.inl ⟨rfl,.str _⟩)⟩)
  ·cases h
 ·cases h
def cutD (ds:List PyData) (lo hi:Option Int):List PyData:=(ds.drop (HT.sIx ds.length 0 lo)).take (HT.sIx ds.length ds.length hi - HT.sIx ds.length 0 lo)
theorem zLj {Hk:Hp} {vs:List V} {ds:List PyData} (h:DvAll K Hk vs ds) (lo hi:Option Int):DvAll K Hk (cutV vs lo hi) (cutD ds lo hi):=by
 unfold cutV cutD;rw [h.len];exact (h.drop _).take _
abbrev MO:=Sl→Option (Option Int×Sl)
def tO (K:oB) (m:MO):TO:=fun σ H Q=>∃B env Hk o env',Rel K B env σ Hk H∧m env=some (o,env')∧∀Hk' H',Rel K B env' σ Hk' H'→KSame Hk Hk'→Q o H'
def zCS:MO:=fun env=>some (none,env)
def zEf (m:ME):MO:=fun env=>(m env).bind fun p=>match p.1 with
 |.dat (.int i)=>some (some i,p.2)
 |_=>none
abbrev VO (X:Cx) (e:Option Expr) (m:MO):Prop:=PO X e (tO X.K m)
theorem _root_.L2.PO.imp {X:Cx} {e:Option Expr} {t t':TO} (h:PO X e t) (k:∀σ H Q,t' σ H Q→t σ H Q):PO X e t':=⟨fun pins s σ H Q I q=>h.run pins s σ H Q I (k σ H Q q)⟩
theorem zDL:VO X none zCS:=po_none.imp fun σ H Q h=>by
 obtain ⟨B,env,Hk,o,env',R,hm,k⟩:=h
 cases hm
 exact k Hk H R (.refl _)
theorem zB6 {e:Expr} {m:ME} (h:VE X e m):VO X (some e) (zEf m):=(po_some h).imp fun σ H Q h=>by
 obtain ⟨B,env,Hk,o,env',R,hm,k⟩:=h
 obtain ⟨⟨r,e1⟩,h1,hm⟩:=oC.mp hm
 refine ⟨B,env,Hk,r,e1,R,h1,fun v Hk1 H1 R1 s1 o1=>?_⟩
 cases r with
 |new c=>cases hm
 |slt i=>cases hm
 |pv p=>cases hm
 |dat d=>
  cases d with
  |int i=>
   cases hm
   cases o1
   exact ⟨i,rfl,k Hk1 H1 R1 s1⟩
  |_=>cases hm
def SlD (K:oB) (r:V→Option Int→Option Int→Hp→VK→Prop) (g:PyData→Option Int→Option Int→Option Res):Prop:=∀(Hk H:Hp) (x:V) (dx:PyData) (lo hi:Option Int) (res:Res) (Q:VK),Same Hk H→View K Hk H x dx→g dx lo hi=some res→(∀v H',Out K Hk H res v H'→Q v H')→r x lo hi H Q
def mSl (g:PyData→Option Int→Option Int→Option Res) (m:ME) (ml mh:MO):ME:=fun env=>(m env).bind fun p=>(ml p.2).bind fun a=>(mh a.2).bind fun b=>(rdv b.2 (stab p.1)).bind fun dx=>(g dx a.1 b.1).map fun r=>(r,b.2)
theorem zMO {r:V→Option Int→Option Int→Hp→VK→Prop} {g:PyData→Option Int→Option Int→Option Res} {m:ME} {ml mh:MO} (hg:SlD K r g) {σ:St} {H:Hp} {Q:VK} (h:tE K (mSl g m ml mh) σ H Q):tSl r (tE K m) (tO K ml) (tO K mh) σ H Q:=by
 obtain ⟨B,env,Hk,res,env',R,hm,k⟩:=h
 obtain ⟨⟨x,e1⟩,h1,hm⟩:=oC.mp hm
 obtain ⟨⟨lo,e2⟩,h2,hm⟩:=oC.mp hm
 obtain ⟨⟨hi,e3⟩,h3,hm⟩:=oC.mp hm
 obtain ⟨dx,h4,hm⟩:=oC.mp hm
 obtain ⟨res',h5,hm⟩:=oD.mp hm
 cases hm
 refine ⟨B,env,Hk,x,e1,R,h1,fun v Hk1 H1 R1 s1 o1=>?_⟩
 obtain ⟨Hk1',R1',s1',o1'⟩:=R1.stab o1
 refine ⟨B,e1,Hk1',lo,e2,R1',h2,fun Hk2 H2 R2 s2=>?_⟩
 refine ⟨B,e2,Hk2,hi,e3,R2,h3,fun Hk3 H3 R3 s3=>?_⟩
 refine hg Hk3 H3 v dx lo hi res Q R3.ex (R3.view ((o1'.mono s2).mono s3) h4) h5 fun z H4 out=>?_;obtain ⟨Hk4,R4,s4,o4⟩:=R3.out out
 exact k z Hk4 H4 R4 ((((s1.trans s1').trans s2).trans s3).trans s4) o4
theorem zCL {r:V→Option Int→Option Int→Hp→VK→Prop} {g:PyData→Option Int→Option Int→Option Res} {e:Expr} {lo hi:Option Expr} {m:ME} {ml mh:MO} {p2 pos:Pos} (hr:SlR X r) (hg:SlD X.K r g) (he:VE X e m) (hl:VO X lo ml) (hu:VO X hi mh):VE X (.Subscript e (.Slice lo hi none p2) pos) (mSl g m ml mh):=
 (pe_slice hr he hl hu).imp fun _ _ _=>zMO hg
def gSlL:PyData→Option Int→Option Int→Option Res
 |.list ds,lo,hi=>some (.new (.lst (cutD ds lo hi)))
 |_,_,_=>none
theorem zDO:SlD K (rSlL K) gSlL:=by
 intro Hk H x dx lo hi res Q e vx h q
 unfold gSlL at h
 split at h
 ·cases h
  obtain ⟨a,vs,rfl,g1,g2⟩:=vx.list e
  exact ⟨a,vs,rfl,SqL.of g1,fun p hp=>q _ _ ⟨p,_,rfl,hp,rfl,zLj g2 lo hi⟩⟩
 ·cases h
def zFy (i:Nat) (ml mh:MO):ME:=fun env=>match env[i]? with
 |some (.scr ns)=>(ml env).bind fun a=>(mh a.2).map fun b=>(.new (.lst (cutD (ns.map .int) a.1 b.1)),b.2)
 |_=>none
theorem zJI {Hk:Hp}:∀ns:List Int,DvAll K Hk (ns.map V.int) (ns.map .int)
 |[]=>.nil
 |n::ns=>.cons (.int n) (zJI ns)
theorem zI5 {i:Nat} {ml mh:MO} {σ:St} {H:Hp} {Q:VK} (h:tE K (zFy i ml mh) σ H Q):tSl (rSlL K) (tVar i) (tO K ml) (tO K mh) σ H Q:=by
 obtain ⟨B,env,Hk,res,env',R,hm,k⟩:=h
 unfold zFy at hm
 split at hm
 ·rename_i ns he
  obtain ⟨⟨lo,e2⟩,h2,hm⟩:=oC.mp hm
  obtain ⟨⟨hi,e3⟩,h3,hm⟩:=oD.mp hm
  cases hm
  obtain ⟨o,g1,a,rfl,g2⟩:=R.slot i _ he
  refine ⟨_,g1,B,env,Hk,lo,e2,R,h2,fun Hk2 H2 R2 s2=>?_⟩
  refine ⟨B,e2,Hk2,hi,_,R2,h3,fun Hk3 H3 R3 s3=>?_⟩
  refine ⟨a,_,rfl,R3.ex.seq ((s2.trans s3).seq g2),fun p hp=>?_⟩
  obtain ⟨Hk4,R4,s4,o4⟩:=R3.out (r:=.new (.lst (cutD (ns.map .int) lo hi))) ⟨p,_,rfl,hp,rfl,zLj (zJI ns) lo hi⟩
  exact k _ Hk4 _ R4 ((s2.trans s3).trans s4) o4
 ·cases hm
theorem zE6 (i:Nat) {x:Str} {lo hi:Option Expr} {ml mh:MO} {p1 p2 pos:Pos} (hl:VO X lo ml) (hu:VO X hi mh) (hN:X.N[i]?=some x:=by rfl) (hv:Vis X.env.scope x:=by first|exact Or.inl rfl|exact Or.inr (Or.inl rfl)|exact Or.inr (Or.inr rfl)) (hd:(x==("__debug__":Str))=false:=by decide)
  (hcd:(x==("__classdict__":Str))=false:=by decide):VE X (.Subscript (.Name x p1) (.Slice lo hi none p2) pos) (zFy i ml mh):=(pe_slice sl_list (pe_var hN hv hd hcd) hl hu).imp fun _ _ _=>zI5
def gLen:List PyData→Option Res
 |[.list ds]=>some (.dat (.int ds.length))
 |[.tuple ds]=>some (.dat (.int ds.length))
 |[.str x]=>if x.length≤100000 then some (.dat (.int x.length)) else none
 |_=>none
theorem zEK:zEx K (fun xs H Q=>∃x n,xs=[x]∧LenV K x H n∧Q (.int n) H) gLen:=by
 intro Hk H vs ds res Q e hv h q
 unfold gLen at h
 split at h
 ·cases h
  cases hv with
  |cons v1 v2=>
   cases v2
   obtain ⟨a,ws,rfl,g1,g2⟩:=v1.list e
   exact ⟨_,_,rfl,.inl ⟨ws,SqL.of g1,rfl⟩,by rw [g2.len];exact q _ _ (.inl ⟨rfl,.int _⟩)⟩
 ·cases h
  cases hv with
  |cons v1 v2=>
   cases v2
   obtain ⟨a,ws,rfl,g1,g2⟩:=v1.tup e
   exact ⟨_,_,rfl,.inr ⟨ws,g1,rfl⟩,by rw [g2.len];exact q _ _ (.inl ⟨rfl,.int _⟩)⟩
 ·split at h
  ·rename_i hz
   cases h
   cases hv with
   |cons v1 v2=>
    cases v2
    rw [v1.str];exact ⟨_,_,rfl,⟨zFQ hz,rfl⟩,q _ _ (.inl ⟨rfl,.int _⟩)⟩
  ·cases h
 ·cases h
def zJC (f:Int→Int):List PyData→Option Res
 |[.int i]=>some (.dat (.int (f i)))
 |_=>none
theorem zJN {f:Int→Int}:zEx K (fun xs H Q=>∃i,xs=[.int i]∧Q (.int (f i)) H) (zJC f):=by
 intro Hk H vs ds res Q e hv h q
 unfold zJC at h
 split at h
 ·cases h
  cases hv with
  |cons v1 v2=>
   cases v2
   rw [v1.int];exact ⟨_,rfl,q _ _ (.inl ⟨rfl,.int _⟩)⟩
 ·cases h
def zKE (f:Int→Int→Int):List PyData→Option Res
 |[.int i,.int j]=>some (.dat (.int (f i j)))
 |_=>none
theorem zMe {f:Int→Int→Int}:zEx K (fun xs H Q=>∃i j,xs=[.int i,.int j]∧Q (.int (f i j)) H) (zKE f):=by
 intro Hk H vs ds res Q e hv h q
 unfold zKE at h
 split at h
 ·cases h
  cases hv with
  |cons v1 v2=>
   cases v2 with
   |cons v2 v3=>
    cases v3
    rw [v1.int,v2.int];exact ⟨_,_,rfl,q _ _ (.inl ⟨rfl,.int _⟩)⟩
 ·cases h
def gInt:List PyData→Option Res
 |[.int i]=>some (.dat (.int i))
 |[.bool b]=>some (.dat (.int (if b then 1 else 0)))
 |_=>none
theorem zNs:zEx K (fun xs H Q=>(∃i,xs=[.int i]∧Q (.int i) H)∨∃k,xs=[.bl k]∧Q (.int (if k then 1 else 0)) H) gInt:=by
 intro Hk H vs ds res Q e hv h q
 unfold gInt at h
 split at h
 ·cases h
  cases hv with
  |cons v1 v2=>
   cases v2
   rw [v1.int];exact .inl ⟨_,rfl,q _ _ (.inl ⟨rfl,.int _⟩)⟩
 ·cases h
  cases hv with
  |cons v1 v2=>
   cases v2
   rw [v1.bool];exact .inr ⟨_,rfl,q _ _ (.inl ⟨rfl,.int _⟩)⟩
 ·cases h
def gStr:List PyData→Option Res
 |[.int i]=>if i.natAbs.log2<1920 then some (.dat (.str (toString i))) else none
 |_=>none
theorem zNr:zEx K (fun xs H Q=>∃i,xs=[.int i]∧i.natAbs.log2<1920∧Q (.str (toString i)) H) gStr:=by
 intro Hk H vs ds res Q e hv h q
 unfold gStr at h
 split at h
 ·split at h
  ·rename_i hz
   cases h
   cases hv with
   |cons v1 v2=>
    cases v2
    rw [v1.int];exact ⟨_,rfl,hz,q _ _ (.inl ⟨rfl,.str _⟩)⟩
  ·cases h
 ·cases h
def zJz:List PyData→Option (List Int)
 |[]=>some []
 |.int i::ds=>(zJz ds).map (i::·)
 |_=>none
def zHs:List PyData→Option (List Bool)
 |[]=>some []
 |.bool i::ds=>(zHs ds).map (i::·)
 |_=>none
theorem zJy {Hk:Hp}:∀{ds:List PyData} {vs:List V} {ns:List Int},DvAll K Hk vs ds→zJz ds=some ns→vs=ns.map V.int
 |[],_,ns,.nil,h=>by cases h;rfl
 |.int i::ds,_,ns,.cons h1 h2,h=>by
  obtain ⟨ms,e1,e2⟩:=oD.mp h
  subst e2;cases h1
  rw [zJy h2 e1];rfl
 |.none::ds,_,ns,.cons h1 h2,h=>by cases h
 |.bool _::ds,_,ns,.cons h1 h2,h=>by cases h
 |.str _::ds,_,ns,.cons h1 h2,h=>by cases h
 |.list _::ds,_,ns,.cons h1 h2,h=>by cases h
 |.tuple _::ds,_,ns,.cons h1 h2,h=>by cases h
 |.dict _::ds,_,ns,.cons h1 h2,h=>by cases h
theorem zIw {Hk:Hp}:∀{ds:List PyData} {vs:List V} {ns:List Bool},DvAll K Hk vs ds→zHs ds=some ns→vs=ns.map V.bl
 |[],_,ns,.nil,h=>by cases h;rfl
 |.bool i::ds,_,ns,.cons h1 h2,h=>by
  obtain ⟨ms,e1,e2⟩:=oD.mp h
  subst e2;cases h1
  rw [zIw h2 e1];rfl
 |.none::ds,_,ns,.cons h1 h2,h=>by cases h
 |.int _::ds,_,ns,.cons h1 h2,h=>by cases h
 |.str _::ds,_,ns,.cons h1 h2,h=>by cases h
 |.list _::ds,_,ns,.cons h1 h2,h=>by cases h
 |.tuple _::ds,_,ns,.cons h1 h2,h=>by cases h
 |.dict _::ds,_,ns,.cons h1 h2,h=>by cases h
def gSum:List PyData→Option Res
 |[.list ds]=>(zJz ds).map fun ns=>.dat (.int ns.sum)
 |_=>none
theorem zLk:zEx K (rSum K) gSum:=by
 intro Hk H vs ds res Q e hv h q
 unfold gSum at h
 split at h
 ·obtain ⟨ns,h1,rfl⟩:=oD.mp h
  cases hv with
  |cons v1 v2=>
   cases v2
   obtain ⟨a,ws,rfl,g1,g2⟩:=v1.list e
   rw [zJy g2 h1] at g1
   exact ⟨a,ns,rfl,SqL.of g1,q _ _ (.inl ⟨rfl,.int _⟩)⟩
 ·cases h
def gAll:List PyData→Option Res
 |[.list ds]=>(zHs ds).map fun ns=>.dat (.bool (ns.all id))
 |_=>none
theorem zHq:zEx K (rAll K) gAll:=by
 intro Hk H vs ds res Q e hv h q
 unfold gAll at h
 split at h
 ·obtain ⟨ns,h1,rfl⟩:=oD.mp h
  cases hv with
  |cons v1 v2=>
   cases v2
   obtain ⟨a,ws,rfl,g1,g2⟩:=v1.list e
   rw [zIw g2 h1] at g1
   exact ⟨a,ns,rfl,SqL.of g1,q _ _ (.inl ⟨rfl,.bl _⟩)⟩
 ·cases h
def zIO:List PyData→Option Res
 |[.list ds]=>some (.new (.lst ds))
 |[.tuple ds]=>some (.new (.lst ds))
 |_=>none
theorem zHZ:zEx K (fun xs H Q=>∃p ys,xs=[.ref p]∧(SqL K H p ys∨SqT K H p ys)∧∀l,H l=none→Q (.ref l) (upd H l (.lst ys))) zIO:=by
 intro Hk H vs ds res Q e hv h q
 unfold zIO at h
 split at h
 ·cases h
  cases hv with
  |cons v1 v2=>
   cases v2
   obtain ⟨a,ws,rfl,g1,g2⟩:=v1.list e
   exact ⟨a,ws,rfl,.inl (SqL.of g1),fun l hl=>q _ _ ⟨l,ws,rfl,hl,rfl,g2⟩⟩
 ·cases h
  cases hv with
  |cons v1 v2=>
   cases v2
   obtain ⟨a,ws,rfl,g1,g2⟩:=v1.tup e
   exact ⟨a,ws,rfl,.inr g1,fun l hl=>q _ _ ⟨l,ws,rfl,hl,rfl,g2⟩⟩
 ·cases h
def zDd (ms:MA):MI:=fun env=>(ms env).bind fun p=>(zCa p.2 p.1).bind fun ds=>match ds with
 |[.int j]=>if -(2 ^ 62)≤j∧j<2 ^ 62 then some ((List.range j.toNat).map fun i=>.int (i:Nat),p.2) else none
 |_=>none
theorem zF5 {lo:Int} {n:Nat} {Hk:Hp}:zGg K Hk (Itr lo n) ((List.range n).map fun i=>.int (lo+(i:Nat))):=by
 intro Hk2 H2 _ _ i
 refine ⟨fun d hd=>?_,fun hl=>?_⟩
 ·rw [oO] at hd
  obtain ⟨j,h1,rfl⟩:=oD.mp hd
  obtain ⟨h2,h3⟩:=oE.mp h1
  rw [List.getElem_range] at h3
  subst h3;rw [List.length_range] at h2
  refine ⟨h2,fun x H' y=>?_⟩
  obtain ⟨rfl,rfl⟩:=y
  exact .inl ⟨rfl,.int _⟩
 ·rw [oJ,List.length_range] at hl
  exact hl
theorem zID {ms:MA} {σ:St} {H:Hp} {R:It→Hp→Prop} (h:tI K (zDd ms) σ H R):iRng1 (tA K ms) σ H R:=by
 obtain ⟨B,env,Hk,ds,env',R0,hm,k⟩:=h
 obtain ⟨⟨rs,e1⟩,h1,hm⟩:=oC.mp hm
 obtain ⟨es,h2,hm⟩:=oC.mp hm
 refine ⟨B,env,Hk,rs,e1,R0,h1,fun vs Hk1 H1 R1 s1 o1=>?_⟩
 have hv:=R1.views o1 h2
 split at hm
 ·rename_i j
  split at hm
  ·rename_i hz
   cases hm
   cases hv with
   |cons v1 v2=>
    cases v2
    rw [v1.int];refine ⟨j,rfl,hz.1,hz.2,k _ Hk1 H1 R1 s1 ?_⟩
    have:=zF5 (K:=K) (lo:=0) (n:=j.toNat) (Hk:=Hk1)
    simpa using this
  ·cases hm
 ·cases hm
theorem zDU {tg a:Expr} {ms:MA} {p pos:Pos} (hm:X.mg "range"=none) (ha:VA X [a] ms) (hg:Gl X "range":=by rfl) (hs:starEach [a] X.env=[(false,eval a X.env)]:=by rfl):VI X tg (.Call (.Name "range" p) [a] [] pos) (zDd ms):=(pi_range1 hg hm ha hs).imp fun _ _ _=>zID
def zFA (ms:MA):MI:=fun env=>(ms env).bind fun p=>(zCa p.2 p.1).bind fun ds=>match ds with
 |[.int i,.int j]=>if (-(2 ^ 62)≤i∧i<2 ^ 62)∧ -(2 ^ 62)≤j∧j<2 ^ 62 then some ((List.range (j - i).toNat).map fun k=>.int (i+(k:Nat)),p.2) else none
 |_=>none
theorem zIC {ms:MA} {σ:St} {H:Hp} {R:It→Hp→Prop} (h:tI K (zFA ms) σ H R):iRng2 (tA K ms) σ H R:=by
 obtain ⟨B,env,Hk,ds,env',R0,hm,k⟩:=h
 obtain ⟨⟨rs,e1⟩,h1,hm⟩:=oC.mp hm
 obtain ⟨es,h2,hm⟩:=oC.mp hm
 refine ⟨B,env,Hk,rs,e1,R0,h1,fun vs Hk1 H1 R1 s1 o1=>?_⟩
 have hv:=R1.views o1 h2
 split at hm
 ·rename_i i j
  split at hm
  ·rename_i hz
   cases hm
   cases hv with
   |cons v1 v2=>
    cases v2 with
    |cons v2 v3=>
     cases v3
     rw [v1.int,v2.int];exact ⟨i,j,rfl,⟨hz.1.1,hz.1.2,hz.2.1,hz.2.2⟩,k _ Hk1 H1 R1 s1 zF5⟩
  ·cases hm
 ·cases hm
theorem zIZ {tg a b:Expr} {ms:MA} {p pos:Pos} (hm:X.mg "range"=none) (ha:VA X [a,b] ms) (hg:Gl X "range":=by rfl) (hs:starEach [a,b] X.env=[(false,eval a X.env),(false,eval b X.env)]:=by rfl) (hs2:starEach [b] X.env=[(false,eval b X.env)]:=by rfl):VI X tg (.Call (.Name "range" p) [a,b] [] pos) (zFA ms):=(pi_range2 hg hm ha hs hs2).imp fun _ _ _=>zIC
def mItL (m:ME):MI:=fun env=>(mFrz m env).bind fun p=>match p.1 with
 |.dat (.list ds)=>some (ds,p.2)
 |_=>none
theorem zJw {a:Addr} {xs:List V} {ds:List PyData} {Hk:Hp} (h:Hk a=some (.lst xs)) (hd:DvAll K Hk xs ds):zGg K Hk (Itl K a) ds:=by
 intro Hk2 H2 s2 e2 i
 have hq:SqL K H2 a xs:=SqL.of (e2 _ _ (s2 _ _ h))
 refine ⟨fun d hi=>?_,fun hl=>⟨xs,hq,by rw [hd.len];exact hl⟩⟩
 obtain ⟨v,g1,g2⟩:=hd.get i d hi
 refine ⟨⟨xs,v,hq,g1⟩,fun x H' y=>?_⟩
 obtain ⟨rfl,y⟩:=y
 have:=y xs hq
 rw [g1] at this
 cases this
 exact .inl ⟨rfl,zAG s2 _ _ g2⟩
theorem zL0 {m:ME} {σ:St} {H:Hp} {R:It→Hp→Prop} (h:tI K (mItL m) σ H R):iList K (tE K (mFrz m)) σ H R:=by
 obtain ⟨B,env,Hk,ds,env',R0,hm,k⟩:=h
 obtain ⟨⟨r,e1⟩,h1,hm⟩:=oC.mp hm
 refine ⟨B,env,Hk,r,e1,R0,h1,fun v Hk1 H1 R1 s1 o1=>?_⟩
 cases r with
 |new c=>cases hm
 |slt i=>cases hm
 |pv p=>cases hm
 |dat d=>
  cases d with
  |list ds=>
   cases hm
   cases o1 with
   |lst g1 g2=>exact ⟨_,rfl,⟨_,SqL.of (R1.ex _ _ g1)⟩,k _ Hk1 H1 R1 s1 (zJw g1 g2)⟩
  |_=>cases hm
theorem zDM {tg e:Expr} {m:ME} (h:VE X e m):VI X tg e (mItL m):=(pi_list (zAh h)).imp fun _ _ _=>zL0
def mItT (m:ME):MI:=fun env=>(mFrz m env).bind fun p=>match p.1 with
 |.dat (.tuple ds)=>some (ds,p.2)
 |_=>none
theorem zKv {a:Addr} {xs:List V} {ds:List PyData} {Hk:Hp} (h:SqT K Hk a xs) (hd:DvAll K Hk xs ds):zGg K Hk (Itt K a) ds:=by
 intro Hk2 H2 s2 e2 i
 have hq:SqT K H2 a xs:=zAV e2 (zAV s2 h)
 refine ⟨fun d hi=>?_,fun hl=>⟨xs,hq,by rw [hd.len];exact hl⟩⟩
 obtain ⟨v,g1,g2⟩:=hd.get i d hi
 refine ⟨⟨xs,v,hq,g1⟩,fun x H' y=>?_⟩
 obtain ⟨rfl,y⟩:=y
 have:=y xs hq
 rw [g1] at this
 cases this
 exact .inl ⟨rfl,zAG s2 _ _ g2⟩
theorem zLY {m:ME} {σ:St} {H:Hp} {R:It→Hp→Prop} (h:tI K (mItT m) σ H R):iTup K (tE K (mFrz m)) σ H R:=by
 obtain ⟨B,env,Hk,ds,env',R0,hm,k⟩:=h
 obtain ⟨⟨r,e1⟩,h1,hm⟩:=oC.mp hm
 refine ⟨B,env,Hk,r,e1,R0,h1,fun v Hk1 H1 R1 s1 o1=>?_⟩
 cases r with
 |new c=>cases hm
 |slt i=>cases hm
 |pv p=>cases hm
 |dat d=>
  cases d with
  |tuple ds=>
   cases hm
   cases o1 with
   |tup g1 g2=>exact ⟨_,rfl,⟨_,zAV R1.ex g1⟩,k _ Hk1 H1 R1 s1 (zKv g1 g2)⟩
  |_=>cases hm
theorem zIX {tg e:Expr} {m:ME} (h:VE X e m):VI X tg e (mItT m):=(pi_tup (zAh h)).imp fun _ _ _=>zLY
def zEP:Nat→List PyData→List PyData
 |_,[]=>[]
 |i,d::ds=>.tuple [.int (i:Nat),d]::zEP (i+1) ds
theorem zHj:∀(i:Nat) (ds:List PyData),(zEP i ds).length=ds.length
 |_,[]=>rfl
 |i,d::ds=>by
  show (zEP (i+1) ds).length+1=_
  rw [zHj (i+1) ds];rfl
theorem zHk:∀(k:Nat) (ds:List PyData) (i:Nat) (d:PyData),(zEP k ds)[i]?=some d→∃x,ds[i]?=some x∧d=.tuple [.int ((k+i:Nat):Int),x]
 |_,[],i,d,h=>by simp [zEP] at h
 |k,x::ds,0,d,h=>by
  simp [zEP] at h
  exact ⟨x,rfl,by rw [←h];simp⟩
 |k,x::ds,i+1,d,h=>by
  obtain ⟨y,h1,h2⟩:=zHk (k+1) ds i d (by simpa [zEP] using h)
  exact ⟨y,by simpa using h1,by rw [h2];congr 3;omega⟩
def zJq (ms:MA):MI:=fun env=>(ms env).bind fun p=>match p.1 with
 |[.dat (.list ds)]=>some (zEP 0 ds,p.2)
 |_=>none
theorem zKH {ms:MA} {σ:St} {H:Hp} {R:It→Hp→Prop} (h:tI K (zJq ms) σ H R):iEnum K (tA K ms) σ H R:=by
 obtain ⟨B,env,Hk,ds,env',R0,hm,k⟩:=h
 obtain ⟨⟨rs,e1⟩,h1,hm⟩:=oC.mp hm
 refine ⟨B,env,Hk,rs,e1,R0,h1,fun vs Hk1 H1 R1 s1 o1=>?_⟩
 split at hm
 ·rename_i xs he
  cases hm
  have he:rs=[.dat (.list xs)]:=he
  subst he;cases o1 with
  |cons o1 o2=>
   cases o2
   cases o1 with
   |lst g1 g2=>
    refine ⟨_,_,rfl,SqL.of (R1.ex _ _ g1),k _ Hk1 H1 R1 s1 ?_⟩
    intro Hk2 H2 s2 e2 i
    refine ⟨fun d hi=>?_,fun hl=>⟨_,SqL.of (e2 _ _ (s2 _ _ g1)),by rw [g2.len];rw [zHj] at hl;exact hl⟩⟩
    obtain ⟨x,q1,rfl⟩:=zHk 0 _ i d hi
    obtain ⟨v,q2,q3⟩:=g2.get i x q1
    refine ⟨⟨_,v,SqL.of (e2 _ _ (s2 _ _ g1)),q2⟩,fun y H' z=>?_⟩
    obtain ⟨T,v',rfl,hT,rfl,hx⟩:=z
    have:=hx _ (SqL.of (e2 _ _ (s2 _ _ g1)))
    rw [q2] at this
    cases this
    refine .inr ⟨T,_,_,rfl,rfl,hT,rfl,.cons ?_ (.cons (zAG s2 _ _ q3) .nil)⟩
    rw [Nat.zero_add];exact .int _
 ·cases hm
theorem zLx {e:Expr} {ms:MA} {p pos tpos:Pos} {elts:List Expr} {kk:Nat} (hm:X.mg "enumerate"=none) (ha:VA X [e] ms) (hg:Gl X "enumerate":=by rfl) (hs:starEach [e] X.env=[(false,eval e X.env)]:=by rfl):
  VI X (.Tuple elts kk tpos) (.Call (.Name "enumerate" p) [e] [] pos) (zJq ms):=(pi_enum hg hm ha hs).imp fun _ _ _=>zKH
def zipD:List PyData→List PyData→List PyData
 |x::xs,y::ys=>.tuple [x,y]::zipD xs ys
 |_,_=>[]
theorem zET:∀(xs ys:List PyData) (i:Nat) (d:PyData),(zipD xs ys)[i]?=some d→∃x y,xs[i]?=some x∧ys[i]?=some y∧d=.tuple [x,y]
 |[],_,i,d,h=>by simp [zipD] at h
 |_::_,[],i,d,h=>by simp [zipD] at h
 |x::xs,y::ys,0,d,h=>by
  simp [zipD] at h
  exact ⟨x,y,rfl,rfl,h.symm⟩
 |x::xs,y::ys,i+1,d,h=>by
  obtain ⟨a,b,h1,h2,h3⟩:=zET xs ys i d (by simpa [zipD] using h)
  exact ⟨a,b,by simpa using h1,by simpa using h2,h3⟩
theorem zES:∀(xs ys:List PyData),(zipD xs ys).length=min xs.length ys.length
 |[],_=>by simp [zipD]
 |_::_,[]=>by simp [zipD]
 |x::xs,y::ys=>by
  show (zipD xs ys).length+1=_
  rw [zES xs ys,OC,OC];omega
def mZip (ms:MA):MI:=fun env=>(ms env).bind fun p=>match p.1 with
 |[.dat (.list xs),.dat (.list ys)]=>some (zipD xs ys,p.2)
 |_=>none
theorem zLo {ms:MA} {σ:St} {H:Hp} {R:It→Hp→Prop} (h:tI K (mZip ms) σ H R):iZip K (tA K ms) σ H R:=by
 obtain ⟨B,env,Hk,ds,env',R0,hm,k⟩:=h
 obtain ⟨⟨rs,e1⟩,h1,hm⟩:=oC.mp hm
 refine ⟨B,env,Hk,rs,e1,R0,h1,fun vs Hk1 H1 R1 s1 o1=>?_⟩
 split at hm
 ·rename_i xs ys he
  cases hm
  have he:rs=[.dat (.list xs),.dat (.list ys)]:=he
  subst he;cases o1 with
  |cons o1 o2=>
   cases o2 with
   |cons o2 o3=>
    cases o3
    cases o1 with
    |lst g1 g2=>
     cases o2 with
     |lst g3 g4=>
      refine ⟨_,_,_,_,rfl,SqL.of (R1.ex _ _ g1),SqL.of (R1.ex _ _ g3),k _ Hk1 H1 R1 s1 ?_⟩
      intro Hk2 H2 s2 e2 i
      have w1:=SqL.of (K:=K) (e2 _ _ (s2 _ _ g1))
      have w2:=SqL.of (K:=K) (e2 _ _ (s2 _ _ g3))
      refine ⟨fun d hi=>?_,fun hl=>⟨_,_,w1,w2,by rw [g2.len,g4.len];rw [zES] at hl;omega⟩⟩
      obtain ⟨x,y,q1,q2,rfl⟩:=zET _ _ i d hi
      obtain ⟨v,q3,q4⟩:=g2.get i x q1
      obtain ⟨u,q5,q6⟩:=g4.get i y q2
      refine ⟨⟨_,_,v,u,w1,w2,q3,q5⟩,fun z H' hz=>?_⟩
      obtain ⟨T,v',u',rfl,hT,rfl,hx,hy⟩:=hz
      have c1:=hx _ w1
      have c2:=hy _ w2
      rw [q3] at c1
      rw [q5] at c2
      cases c1
      cases c2
      exact .inr ⟨T,_,_,rfl,rfl,hT,rfl,.cons (zAG s2 _ _ q4) (.cons (zAG s2 _ _ q6) .nil)⟩
 ·cases hm
theorem zK1 {e e2:Expr} {ms:MA} {p pos tpos:Pos} {elts:List Expr} {kk:Nat} (hm:X.mg "zip"=none) (ha:VA X [e,e2] ms) (hg:Gl X "zip":=by rfl) (hs:starEach [e,e2] X.env=(false,eval e X.env)::starEach [e2] X.env:=by rfl) (hpl:(backTo pos (starEach [e2] X.env)).any (·.1)=false:=by rfl):
  VI X (.Tuple elts kk tpos) (.Call (.Name "zip" p) [e,e2] [] pos) (mZip ms):=(pi_zip hg hm ha hs hpl).imp fun _ _ _=>zLo
def mRev (ms:MA):MI:=fun env=>(ms env).bind fun p=>match p.1 with
 |[.dat (.list xs)]=>some (xs.reverse,p.2)
 |_=>none
theorem zLF {ms:MA} {σ:St} {H:Hp} {R:It→Hp→Prop} (h:tI K (mRev ms) σ H R):iRev K (tA K ms) σ H R:=by
 obtain ⟨B,env,Hk,ds,env',R0,hm,k⟩:=h
 obtain ⟨⟨rs,e1⟩,h1,hm⟩:=oC.mp hm
 refine ⟨B,env,Hk,rs,e1,R0,h1,fun vs Hk1 H1 R1 s1 o1=>?_⟩
 split at hm
 ·rename_i xs he
  cases hm
  have he:rs=[.dat (.list xs)]:=he
  subst he;cases o1 with
  |cons o1 o2=>
   cases o2
   cases o1 with
   |lst g1 g2=>
    refine ⟨_,_,rfl,SqL.of (R1.ex _ _ g1),k _ Hk1 H1 R1 s1 ?_⟩
    intro Hk2 H2 s2 e2 i
    have w1:=SqL.of (K:=K) (e2 _ _ (s2 _ _ g1))
    refine ⟨fun d hi=>?_,fun hl=>by rw [List.length_reverse,←g2.len] at hl;exact hl⟩
    have hlt:i<xs.length:=by
     have:=(oE.mp hi).1
     rw [List.length_reverse] at this
     exact this
    rw [List.getElem?_reverse hlt] at hi
    obtain ⟨v,q3,q4⟩:=g2.get _ d hi
    rw [←g2.len] at q3 hlt
    refine ⟨⟨hlt,_,v,w1,q3⟩,fun z H' hz=>?_⟩
    obtain ⟨rfl,hx⟩:=hz
    have c1:=hx _ w1
    rw [q3] at c1
    cases c1
    exact .inl ⟨rfl,zAG s2 _ _ q4⟩
 ·cases hm
theorem zMG {tg e:Expr} {ms:MA} {p pos:Pos} (hm:X.mg "reversed"=none) (ha:VA X [e] ms) (hg:Gl X "reversed":=by rfl) (hs:starEach [e] X.env=[(false,eval e X.env)]:=by rfl):
  VI X tg (.Call (.Name "reversed" p) [e] [] pos) (mRev ms):=(pi_reversed hg hm ha hs).imp fun _ _ _=>zLF
end
end Cm
namespace Cm
open PySem L2
def lstAt (env:Sl) (i:Nat):Option (Slot×List PyData):=match env[i]? with
 |some (.own (.lst ds))=>some (.own (.lst ds),ds)
 |some (.io k (.lst ds))=>some (.io k (.lst ds),ds)
 |_=>none
section
variable {X:Cx} {K:oB} {B:Fb} {env:Sl} {σ:St} {Hk:Kn} {H:Hp}
theorem Rel.lstAt (R:Rel K B env σ Hk H) {i:Nat} {s:Slot} {ds:List PyData} (h:Cm.lstAt env i=some (s,ds)):∃a vs,env[i]?=some s∧s.mut∧σ[i]?=some (some (V.ref a))∧H a=some (.lst vs)∧DvAll K Hk vs ds:=by
 unfold Cm.lstAt at h
 split at h
 ·rename_i ds' e
  cases h
  obtain ⟨o,g1,a,rfl,q1,q2,vs,q3,q4⟩:=R.slot i _ e
  exact ⟨a,vs,e,trivial,g1,q3,q4⟩
 ·rename_i k ds' e
  cases h
  obtain ⟨o,g1,a,rfl,q1,q2,vs,q3,q4⟩:=R.slot i _ e
  exact ⟨a,vs,e,trivial,g1,q3,q4⟩
 ·cases h
def MutD (K:oB) (r:V→List V→Hp→VK→Prop) (f:List PyData→List PyData→Option (List PyData×PyData)):Prop:=∀(Hk H:Hp) (l:Addr) (vs ws:List V) (ds es ds':List PyData) (ret:PyData) (Q:VK),Same Hk H→H l=some (.lst vs)→DvAll K Hk vs ds→DvAll K Hk ws es→f ds es=some (ds',ret)→
 (∀vs' v,DvAll K Hk vs' ds'→Dv K Hk v ret→Q v (upd H l (.lst vs')))→r (.ref l) ws H Q
def mMut (i:Nat) (f:List PyData→List PyData→Option (List PyData×PyData)) (ms:MA):ME:=fun env=>(lstAt env i).bind fun _=>(ms env).bind fun p=>(dats p.1).bind fun es=>(lstAt p.2 i).bind fun q=>(f q.2 es).map fun z=>(.dat z.2,p.2.set i (q.1.put (.lst z.1)))
theorem zJi {i:Nat} {r:V→List V→Hp→VK→Prop} {f:List PyData→List PyData→Option (List PyData×PyData)} {ms:MA} (hf:MutD K r f) {Q:VK} (h:tE K (mMut i f ms) σ H Q):tBM K "list" r (tVar i) (tA K ms) σ H Q:=by
 obtain ⟨B,env,Hk,res,env',R,hm,k⟩:=h
 obtain ⟨⟨s0,ds0⟩,h0,hm⟩:=oC.mp hm
 obtain ⟨⟨rs,e1⟩,h1,hm⟩:=oC.mp hm
 obtain ⟨es,h2,hm⟩:=oC.mp hm
 obtain ⟨⟨s,ds⟩,h3,hm⟩:=oC.mp hm
 obtain ⟨⟨ds',ret⟩,h4,hm⟩:=oD.mp hm
 cases hm
 obtain ⟨a,vs0,g1,g2,g3,g4,g5⟩:=R.lstAt h0
 refine ⟨_,g3,.inl ⟨rfl,vs0,SqL.of g4⟩,?_⟩
 refine ⟨B,env,Hk,rs,e1,R,h1,fun ws Hk1 H1 R1 s1 o1=>?_⟩
 obtain ⟨a',vs,q1,q2,q3,q4,q5⟩:=R1.lstAt h3
 rw [g3] at q3
 cases q3
 refine hf Hk1 H1 a vs ws ds es ds' ret Q R1.ex q4 q5 (o1.dats h2) h4 fun vs' v d1 d2=>?_;exact k v Hk1 _ (R1.change q1 q2 g3 ⟨vs',upd_same,d1⟩) s1 d2
theorem zKp {i:Nat} {r:V→List V→Hp→VK→Prop} {f:List PyData→List PyData→Option (List PyData×PyData)} (hf:MutD K r f) {Q:VK} (h:tE K (mMut i f mNil) σ H Q):tBM0 K "list" r (tVar i) σ H Q:=by
 obtain ⟨x,e,ty,q⟩:=zJi hf h
 refine ⟨x,e,ty,?_⟩
 obtain ⟨B,env,Hk,rs,env',R,hm,k⟩:=q
 cases hm
 exact k [] Hk H R (.refl _) .nil
theorem zH8 {i:Nat} {x name:Str} {id:String} {r:V→List V→Hp→VK→Prop} {f:List PyData→List PyData→Option (List PyData×PyData)} {ms:MA} {e:Expr} {es:List Expr} {p apos cpos:Pos} (slot:PySem.Slot "list" name id) (hty:typeOf (.builtin id)=pure (.type "method_descriptor")) (hm:MtR X id r) (hf:MutD X.K r f) (ha:VA X (e::es) ms)
  (hN:X.N[i]?=some x:=by rfl) (hv:Vis X.env.scope x:=by first|exact Or.inl rfl|exact Or.inr (Or.inl rfl)|exact Or.inr (Or.inr rfl)) (hd:(x==("__debug__":Str))=false:=by decide) (hcd:(x==("__classdict__":Str))=false:=by decide)
  (hbase:attributeBase (.Name x p) name X.env (eval (.Name x p) X.env)=eval (.Name x p) X.env:=by rfl)
  (hfew:((backTo cpos (starEach (e::es) X.env)).all (fun x=>!x.1)&&(backToKw cpos (keywordEach [] X.env)).all (fun x=>x.1.isSome)
   &&decide ((e::es).length+([]:List Keyword).length+(if ([]:List Keyword).isEmpty then 0 else 1)<30))=true:=by rfl)
  (hline:(apos.endLine==cpos.line)=true:=by rfl) (hs:starEach (e::es) X.env=(false,eval e X.env)::starEach es X.env:=by rfl) (hplain:(backTo cpos (starEach es X.env)).any (·.1)=false:=by rfl):
  VE X (.Call (.Attribute (.Name x p) name apos) (e::es) [] cpos) (mMut i f ms):=
 (pe_bm PySem.F.plainAttrs_list slot hty hm (pe_var hN hv hd hcd) ha hbase hfew hline hs hplain).imp fun _ _ _=>zJi hf
theorem zLy {i:Nat} {x name:Str} {id:String} {r:V→List V→Hp→VK→Prop} {f:List PyData→List PyData→Option (List PyData×PyData)} {p apos cpos:Pos} (slot:PySem.Slot "list" name id) (hty:typeOf (.builtin id)=pure (.type "method_descriptor")) (hm:MtR X id r) (hf:MutD X.K r f)
  (hN:X.N[i]?=some x:=by rfl) (hv:Vis X.env.scope x:=by first|exact Or.inl rfl|exact Or.inr (Or.inl rfl)|exact Or.inr (Or.inr rfl)) (hd:(x==("__debug__":Str))=false:=by decide) (hcd:(x==("__classdict__":Str))=false:=by decide)
  (hbase:attributeBase (.Name x p) name X.env (eval (.Name x p) X.env)=eval (.Name x p) X.env:=by rfl) (hline:(apos.endLine==cpos.line)=true:=by rfl):
  VE X (.Call (.Attribute (.Name x p) name apos) [] [] cpos) (mMut i f mNil):=
 (pe_bm0 PySem.F.plainAttrs_list slot hty hm (pe_var hN hv hd hcd) hbase hline).imp fun _ _ _=>zKp hf
def fApp:List PyData→List PyData→Option (List PyData×PyData)
 |ds,[d]=>if ds.length<100000 then some (ds++[d],.none) else none
 |_,_=>none
theorem zHc:MutD K rAppend fApp:=by
 intro Hk H l vs ws ds es ds' ret Q e hl hd he h q
 unfold fApp at h
 split at h
 ·split at h
  ·rename_i hz
   cases h
   cases he with
   |cons h1 h2=>
    cases h2
    exact ⟨l,vs,_,rfl,rfl,hl,by rw [hd.len];exact Nat.lt_of_lt_of_le hz (by decide),q _ _ (hd.append (.cons h1 .nil)) .non⟩
  ·cases h
 ·cases h
def fExt:List PyData→List PyData→Option (List PyData×PyData)
 |ds,[.list es]=>if ds.length+es.length≤100000 then some (ds++es,.none) else none
 |_,_=>none
theorem zHb:MutD K rExtend fExt:=by
 intro Hk H l vs ws ds es ds' ret Q e hl hd he h q
 unfold fExt at h
 split at h
 ·split at h
  ·rename_i hz
   cases h
   cases he with
   |cons h1 h2=>
    cases h2
    cases h1 with
    |lst g1 g2=>exact ⟨l,_,vs,_,rfl,rfl,hl,e _ _ g1,by rw [hd.len,g2.len];exact zFQ hz,q _ _ (hd.append g2) .non⟩
  ·cases h
 ·cases h
def zHO (i:Nat) (mi:ME):MG:=fun d env=>(lstAt env i).bind fun _=>(mi env).bind fun p=>match p.1 with
 |.dat (.int k)=>(lstAt p.2 i).bind fun q=>(ixN q.2.length k).map fun j=>p.2.set i (q.1.put (.lst (q.2.set j d)))
 |_=>none
theorem zKA {i:Nat} {mi:ME} {v:V} {Q:St→Hp→Prop} (h:tG K [] (zHO i mi) v σ H Q):gSub (tVar i) (tE K mi) rSetL v σ H Q:=by
 obtain ⟨B,env,Hk,d,env',R,hd,hm,k⟩:=h
 obtain ⟨⟨s0,ds0⟩,h0,hm⟩:=oC.mp hm
 obtain ⟨⟨r,e1⟩,h1,hm⟩:=oC.mp hm
 obtain ⟨a,vs0,g1,g2,g3,g4,g5⟩:=R.lstAt h0
 refine ⟨_,g3,B,env,Hk,r,e1,R,h1,fun w Hk1 H1 R1 s1 o1=>?_⟩
 cases r with
 |new c=>cases hm
 |slt i=>cases hm
 |pv p=>cases hm
 |dat dd=>
  cases dd with
  |int ki=>
   obtain ⟨⟨s,ds⟩,h2,hm⟩:=oC.mp hm
   obtain ⟨j,h3,hm⟩:=oD.mp hm
   cases hm
   cases o1
   obtain ⟨a',vs,q1,q2,q3,q4,q5⟩:=R1.lstAt h2
   rw [g3] at q3
   cases q3
   refine ⟨a,vs,ki,j,rfl,rfl,q4,by rw [q5.len];exact h3,?_⟩
   exact k σ Hk1 _ (R1.change q1 q2 g3 ⟨_,upd_same,q5.set (zAG s1 _ _ hd) j⟩) s1 (fun _ _=>rfl) rfl
  |_=>cases hm
theorem zI0 {i:Nat} {x:Str} {mi:ME} {ix:Expr} {p pos:Pos} (hi:VE X ix mi) (hN:X.N[i]?=some x:=by rfl) (hv:Vis X.env.scope x:=by first|exact Or.inl rfl|exact Or.inr (Or.inl rfl)|exact Or.inr (Or.inr rfl)) (hd:(x==("__debug__":Str))=false:=by decide) (hcd:(x==("__classdict__":Str))=false:=by decide)
  (ha:∀v,assign (.Subscript (.Name x p) ix pos) X.env v=(do
   let ov ←holding [v] (eval (.Name x p) X.env)
   let iv ←holding [v,ov] (eval ix X.env)
   standAt pos
   holding [v,ov,iv] (setItem ov iv v)
   release [v,ov,iv] []):=by intro _;rfl):VG X (.Subscript (.Name x p) ix pos) [] (zHO i mi):=(pg_sub (pe_var hN hv hd hcd) hi set_list ha).imp fun _ _ _ _=>zKA
def mAsg (m:ME) (g:MG):MS:=fun env=>(mFrz m env).bind fun p=>match p.1 with
 |.dat d=>(g d p.2).map fun e=>(.nx,e)
 |_=>none
theorem zMh {m:ME} {g:MG} {js:List Nat} {W:WX} {D:Ends} (h:tS K W (mAsg m g) D σ H):tAsg (tE K (mFrz m)) (tG K js g) D σ H:=by
 obtain ⟨B,env,Hk,f,env',R,hm,k⟩:=h
 obtain ⟨⟨r,e1⟩,h1,hm⟩:=oC.mp hm
 refine ⟨B,env,Hk,r,e1,R,h1,fun v Hk1 H1 R1 s1 o1=>?_⟩
 cases r with
 |new c=>cases hm
 |slt i=>cases hm
 |pv p=>cases hm
 |dat d=>
  obtain ⟨e2,h2,hm⟩:=oD.mp hm
  cases hm
  exact ⟨B,e1,Hk1,d,_,R1,o1,h2,fun σ' Hk2 H2 R2 s2 _ _=>k σ' Hk2 H2 R2 (s1.trans s2)⟩
theorem zGM {tg e:Expr} {m:ME} {g:MG} {js:List Nat} {pos:Pos} (he:VE X e m) (hg:VG X tg js g) (hs:swapsWithSole [tg] e pos.line X.env=pure false:=by rfl) (hw:swappedStores [tg] e X.env=pure none:=by rfl)
  (h1:(assignEach [tg] X.env).map (·.2)=[assign tg X.env]:=by rfl):VS X (.Assign [tg] e pos) (mAsg m g):=fun W _=>(ps_asg (zAh he) hg hs hw h1).imp fun _ _ _=>zMh
def zIM (i:Nat) (f:Int→Int→Int) (m:ME):MS:=fun env=>match env[i]? with
 |some (.val (.int a))=>(m env).bind fun p=>match p.1 with
  |.dat (.int b)=>some (.nx,p.2.set i (.val (.int (f a b))))
  |_=>none
 |_=>none
theorem zKO {i:Nat} {f:Int→Int→Int} {m:ME} {W:WX} {D:Ends} (h:tS K W (zIM i f m) D σ H):tAug i (tE K m) (ipI f) D σ H:=by
 obtain ⟨B,env,Hk,fl,env',R,hm,k⟩:=h
 unfold zIM at hm
 split at hm
 ·rename_i a ha
  obtain ⟨⟨r,e1⟩,h1,hm⟩:=oC.mp hm
  obtain ⟨o,g1,v,rfl,g2⟩:=R.slot i _ ha
  cases g2
  refine ⟨_,g1,B,env,Hk,r,e1,R,h1,fun w Hk1 H1 R1 s1 o1=>?_⟩
  cases r with
  |new c=>cases hm
  |slt i=>cases hm
  |pv p=>cases hm
  |dat d=>
   cases d with
   |int b=>
    cases hm
    cases o1
    exact ⟨a,b,rfl,rfl,k _ Hk1 H1 (R1.setVal (.int _)) s1⟩
   |_=>cases hm
 ·cases hm
theorem zLv {i:Nat} {f:Int→Int→Int} {x:Str} {e:Expr} {m:ME} {op:Operator} {pos' pos:Pos} (ho:PIp X op (ipI f)) (hN:X.N.Nodup) (he:VE X e m) (hi:X.N[i]?=some x:=by rfl) (hx:Loc X.env.scope x:=by first|exact Or.inl rfl|exact Or.inr rfl) (hf:X.fn x=true∨X.env.scope.names.lookup x=some .local:=by first|exact .inl rfl|exact .inr rfl|assumption):
  VS X (.AugAssign (.Name x pos') op e pos) (zIM i f m):=fun W _=>(ps_aug hN hi hx he ho hf).imp fun _ _ _=>zKO
def tyN:PyData→String
 |.none=>"NoneType"
 |.bool _=>"bool"
 |.int _=>"int"
 |.str _=>"str"
 |.list _=>"list"
 |.tuple _=>"tuple"
 |.dict _=>"dict"
theorem zMK {v:V} {d:PyData} (h:Dv K H v d):TyX K H v (.type (tyN d)):=by
 cases h with
 |non=>exact .base .non
 |bl b=>exact .base (.bl b)
 |int b=>exact .base (.int b)
 |str b=>exact .base (.str b)
 |lst h1 h2=>exact .base (.lst h1)
 |tup h1 h2=>
  rcases h1 with (h1|⟨o,h1⟩)|⟨o,its,n,h1,h3,_⟩
  ·exact .base (.tup h1)
  ·exact .fTuple h1
  ·exact .kTuple h1 h3
 |dct h1 h2=>
  rcases h1 with h1|⟨o,h1⟩
  ·exact .base (.dK h1)
  ·exact .fDict h1
def mIsi (T:String) (m:ME):ME:=fun env=>(m env).bind fun p=>(rdv p.2 (stab p.1)).bind fun d=>(kitB (tyN d) T).map fun b=>(.dat (.bool b),p.2)
theorem zL1 {T:String} {m:ME} {Q:VK} (h:tE K (mIsi T m) σ H Q):tCB (rIsi K) (tCons (tE K m) (tCons (tC (.ty T)) tNil)) σ H Q:=by
 obtain ⟨B,env,Hk,res,env',R,hm,k⟩:=h
 obtain ⟨⟨r,e1⟩,h1,hm⟩:=oC.mp hm
 obtain ⟨d,h2,hm⟩:=oC.mp hm
 obtain ⟨b,h3,hm⟩:=oD.mp hm
 cases hm
 refine ⟨B,env,Hk,r,e1,R,h1,fun v Hk1 H1 R1 s1 o1=>?_⟩
 obtain ⟨Hk1',R1',s1',o1'⟩:=R1.stab o1
 have vw:=(R1'.view o1' h2).dv R1'.ex
 exact ⟨v,.ty T,_,_,b,rfl,.ty T,zMK vw,kit_ty h3,k _ Hk1' H1 R1' (s1.trans s1') (.bl b)⟩
theorem zBN {T:Str} {id:String} {e:Expr} {m:ME} {p p2 pos:Pos} (he:VE X e m) (hm:X.mg "isinstance"=none) (hm2:X.mg T=none) (hv:bootBuiltins T=some (.type id)) (hg:Gl X "isinstance":=by rfl) (hg2:Gl X T:=by rfl) (hn:T≠"__name__":=by decide) (hdb:(T==("__debug__":Str))=false:=by decide) (hb:bootBuiltins "isinstance"=some (.builtin "isinstance"):=by decide+kernel)
  (hs:starEach (e::[.Name T p2]) X.env=(false,eval e X.env)::starEach [.Name T p2] X.env:=by rfl) (hs2:starEach [.Name T p2] X.env=(false,eval (.Name T p2) X.env)::starEach [] X.env:=by rfl) (hpl:(backTo pos (starEach [.Name T p2] X.env)).any (·.1)=false:=by rfl):
  VE X (.Call (.Name "isinstance" p) [e,.Name T p2] [] pos) (mIsi id m):=
 (pe_callB call_isi hg hm hb (pa_cons he (pa_cons (pe_bltn (v:=.ty id) hg2 hm2 hv rfl hn hdb) pa_nil hs2) hs) (by decide) (by decide) hs hpl).imp fun _ _ _=>zL1
def zHQ (S T:String) (m:ME):ME:=fun env=>(m env).bind fun p=>(rdv p.2 (stab p.1)).bind fun d=>(kitB (tyN d) S).bind fun b=>(kitB (tyN d) T).map fun c=>(.dat (.bool (b||c)),p.2)
theorem zKx {S T:String} {m:ME} {Q:VK} (h:tE K (zHQ S T m) σ H Q):tCB (rIsiT K) (tCons (tE K m) (tCons (tTup (tCons (tC (.ty S)) (tCons (tC (.ty T)) tNil))) tNil)) σ H Q:=by
 obtain ⟨B,env,Hk,res,env',R,hm,k⟩:=h
 obtain ⟨⟨r,e1⟩,h1,hm⟩:=oC.mp hm
 obtain ⟨d,h2,hm⟩:=oC.mp hm
 obtain ⟨b,h3,hm⟩:=oC.mp hm
 obtain ⟨c,h4,hm⟩:=oD.mp hm
 cases hm
 refine ⟨B,env,Hk,r,e1,R,h1,fun v Hk1 H1 R1 s1 o1=>?_⟩
 obtain ⟨Hk1',R1',s1',o1'⟩:=R1.stab o1
 have vw:=(R1'.view o1' h2).dv R1'.ex
 refine ⟨by show 2≤sizeLine;decide,fun q hq=>?_⟩
 have s2:Same H1 (upd H1 q (.tup [.ty S,.ty T])):=zBm hq
 refine ⟨v,q,_,_,[.type S,.type T],b||c,rfl,upd_same,.cons (.ty S) (.cons (.ty T) .nil),zMK (zAG s2 _ _ vw),?_,k _ Hk1' _ (R1'.laid hq) (s1.trans s1') (.bl _)⟩
 refine kitAny_cons (kit_ty h3) (fun hb=>kitAny_cons (kit_ty h4) (fun hc=>?_) fun hc=>by rw [hc,Bool.or_true]) fun hb=>by rw [hb,Bool.true_or]
 rw [hb,hc];exact kitAny_nil
theorem zHD {S T:Str} {id1 id2:String} {e:Expr} {m:ME} {p p1 p2 p3 pos:Pos} {kk} (he:VE X e m) (hm:X.mg "isinstance"=none) (hm1:X.mg S=none) (hv1:bootBuiltins S=some (.type id1)) (hm2:X.mg T=none) (hv2:bootBuiltins T=some (.type id2)) (hg:Gl X "isinstance":=by rfl) (hg1:Gl X S:=by rfl) (hg2:Gl X T:=by rfl) (hn1:S≠"__name__":=by decide) (hdb1:(S==("__debug__":Str))=false:=by decide) (hn2:T≠"__name__":=by decide) (hdb2:(T==("__debug__":Str))=false:=by decide) (hb:bootBuiltins "isinstance"=some (.builtin "isinstance"):=by decide+kernel)
  (hs:starEach (e::[.Tuple [.Name S p1,.Name T p2] kk p3]) X.env=(false,eval e X.env)::starEach [.Tuple [.Name S p1,.Name T p2] kk p3] X.env:=by rfl) (hs2:starEach [.Tuple [.Name S p1,.Name T p2] kk p3] X.env=(false,eval (.Tuple [.Name S p1,.Name T p2] kk p3) X.env)::starEach [] X.env:=by rfl)
  (hs3:starEach [.Name S p1,.Name T p2] X.env=(false,eval (.Name S p1) X.env)::starEach [.Name T p2] X.env:=by rfl) (hs4:starEach [.Name T p2] X.env=(false,eval (.Name T p2) X.env)::starEach [] X.env:=by rfl) (hpl:(backTo pos (starEach [.Tuple [.Name S p1,.Name T p2] kk p3] X.env)).any (·.1)=false:=by rfl):
  VE X (.Call (.Name "isinstance" p) [e,.Tuple [.Name S p1,.Name T p2] kk p3] [] pos) (zHQ id1 id2 m):=
 (pe_callB call_isiT hg hm hb (pa_cons he (pa_cons (pe_tup (pa_cons (pe_bltn (v:=.ty id1) hg1 hm1 hv1 rfl hn1 hdb1) (pa_cons (pe_bltn (v:=.ty id2) hg2 hm2 hv2 rfl hn2 hdb2) pa_nil hs4) hs3)) pa_nil hs2) hs) (by decide) (by decide) hs hpl).imp fun _ _ _=>zKx
end
end Cm
namespace Cm
open PySem L2
section
variable {X:Cx} {K:oB} {B:Fb} {env:Sl} {σ:St} {Hk:Kn} {H:Hp}
theorem zHU {lo c:Int} {n:Nat} {Hk:Hp}:zGg K Hk (Itc lo c n) ((List.range n).map fun i=>.int (lo+(i:Nat)*c)):=by
 intro Hk2 H2 _ _ i
 refine ⟨fun d hd=>?_,fun hl=>?_⟩
 ·rw [oO] at hd
  obtain ⟨j,h1,rfl⟩:=oD.mp hd
  obtain ⟨h2,h3⟩:=oE.mp h1
  rw [List.getElem_range] at h3
  subst h3;rw [List.length_range] at h2
  refine ⟨h2,fun x H' y=>?_⟩
  obtain ⟨rfl,rfl⟩:=y
  exact .inl ⟨rfl,.int _⟩
 ·rw [oJ,List.length_range] at hl
  exact hl
def zFz (ms:MA):MI:=fun env=>(ms env).bind fun p=>(zCa p.2 p.1).bind fun ds=>match ds with
 |[.int i,.int j,.int c]=>if (c≠0∧c.natAbs<1073741824)∧Builtin.Range.small i j c=true then some ((List.range (Builtin.Range.rangeSize i j c).toNat).map fun k=>.int (i+(k:Nat)*c),p.2) else none
 |_=>none
theorem zGW (i j c:Int):0≤Builtin.Range.rangeSize i j c:=by
 unfold Builtin.Range.rangeSize;split
 ·split
  ·have:0≤(j - i - 1) / c:=Int.ediv_nonneg (by omega) (by omega)
   omega
  ·omega
 ·split
  ·have:0≤(i - j - 1) / (-c):=Int.ediv_nonneg (by omega) (by omega)
   omega
  ·omega
theorem zIB {ms:MA} {σ:St} {H:Hp} {R:It→Hp→Prop} (h:tI K (zFz ms) σ H R):iRng3 (tA K ms) σ H R:=by
 obtain ⟨B,env,Hk,ds,env',R0,hm,k⟩:=h
 obtain ⟨⟨rs,e1⟩,h1,hm⟩:=oC.mp hm
 obtain ⟨es,h2,hm⟩:=oC.mp hm
 refine ⟨B,env,Hk,rs,e1,R0,h1,fun vs Hk1 H1 R1 s1 o1=>?_⟩
 have hv:=R1.views o1 h2
 split at hm
 ·rename_i i j c
  split at hm
  ·rename_i hz
   cases hm
   cases hv with
   |cons v1 v2=>
    cases v2 with
    |cons v2 v3=>
     cases v3 with
     |cons v3 v4=>
      cases v4
      rw [v1.int,v2.int,v3.int];exact ⟨i,j,c,(Builtin.Range.rangeSize i j c).toNat,rfl,⟨hz.1.1,hz.1.2,hz.2,(Int.toNat_of_nonneg (zGW i j c)).symm⟩,k _ Hk1 H1 R1 s1 zHU⟩
  ·cases hm
 ·cases hm
theorem zIY {tg a b c:Expr} {ms:MA} {p pos:Pos} (hm:X.mg "range"=none) (ha:VA X [a,b,c] ms) (hg:Gl X "range":=by rfl) (hs:starEach [a,b,c] X.env=(false,eval a X.env)::starEach [b,c] X.env:=by rfl) (hpl:(backTo pos (starEach [b,c] X.env)).any (·.1)=false:=by rfl):VI X tg (.Call (.Name "range" p) [a,b,c] [] pos) (zFz ms):=(pi_range3 hg hm ha hs hpl).imp fun _ _ _=>zIB
theorem ve_bm {T:String} {name:Str} {id:String} {r:V→List V→Hp→VK→Prop} {g:PyData→List PyData→Option Res} {o e:Expr} {es:List Expr} {m:ME} {ms:MA} {apos cpos:Pos} (pa:PySem.PlainAttrs T) (slot:PySem.Slot T name id) (hty:typeOf (.builtin id)=pure (.type "method_descriptor")) (hm:MtR X id r) (hg:MtD X.K r g) (ho:VE X o m) (ha:VA X (e::es) ms)
  (hbase:attributeBase o name X.env (eval o X.env)=eval o X.env:=by rfl)
  (hfew:((backTo cpos (starEach (e::es) X.env)).all (fun x=>!x.1)&&(backToKw cpos (keywordEach [] X.env)).all (fun x=>x.1.isSome)
   &&decide ((e::es).length+([]:List Keyword).length+(if ([]:List Keyword).isEmpty then 0 else 1)<30))=true:=by rfl)
  (hline:(apos.endLine==cpos.line)=true:=by rfl) (hs:starEach (e::es) X.env=(false,eval e X.env)::starEach es X.env:=by rfl) (hplain:(backTo cpos (starEach es X.env)).any (·.1)=false:=by rfl):
  VE X (.Call (.Attribute o name apos) (e::es) [] cpos) (mBM T g m ms):=
 (pe_bm pa slot hty hm ho ha hbase hfew hline hs hplain).imp fun _ _ _=>zNu hg
def zHd (fm:FM) (m:ME):ME:=fun env=>(m env).bind fun p=>match p.1 with
 |.new c=>(fm [.io 0 c]).map fun q=>(q.1,p.2)
 |_=>none
theorem zJP {fm:FM} {m:ME} {Q:VK} (h:tE K (zHd fm m) σ H Q):tCall (spF K fm) [] E0 (tCons (tE K m) tNil) σ H Q:=by
 obtain ⟨B,env,Hk,res,env',R,hm,k⟩:=h
 obtain ⟨⟨r0,e1⟩,h1,hm⟩:=oC.mp hm
 cases r0 with
 |dat d=>cases hm
 |slt d=>cases hm
 |pv d=>cases hm
 |new c=>
  obtain ⟨⟨r,outs⟩,h3,hm⟩:=oD.mp hm
  cases hm
  refine ⟨B,env,Hk,.new c,e1,R,h1,fun v Hk1 H1 R1 s1 o1=>?_⟩
  obtain ⟨a,rfl,q1,q2,q3,q5,q4⟩:=o1
  show spF K fm [V.ref a] H1 Q E0
  refine ⟨Hk1,[.io 0 c],r,outs,R1.ex,⟨rfl,fun i s v hi hv=>?_,fun i l c' hi=>?_,fun i j l l' c1 c2 b hi hj _ _=>?_⟩,h3,fun v Hk2 H2 p=>?_⟩
  ·match i,hi,hv with
   |0,hi,hv=>
    cases hi
    cases hv
    exact ⟨a,rfl,q1,q3⟩
  ·match i,hi with
   |0,hi=>
    cases hi
    rfl
  ·match i,j,hi,hj with
   |0,0,hi,hj=>rfl
  obtain ⟨c',g1,g2,g3⟩:=p.io 0 a rfl
  obtain ⟨o,ho⟩:=q3.there
  obtain ⟨o',ho'⟩:=g3.there
  have hk:∀b,b≠a→∀i,ioA [Slot.io 0 c] [V.ref a] i≠some b:=fun b hb i z=>by
   match i,z with
   |0,z=>
    cases z
    exact hb rfl
  have eqH:H2=upd (upd H2 a o) a o':=by
   funext b
   by_cases e:b=a
   ·rw [e,upd_same,ho']
   ·rw [upd_ne e,upd_ne e]
  have sH:Same H1 (upd H2 a o):=fun b x e=>by
   by_cases z:b=a
   ·rw [z] at e ⊢
    rw [ho] at e
    rw [upd_same];exact e
   ·rw [upd_ne z]
    exact p.kp b x e (hk b z)
  have R2:Rel K B e1 σ ⟨Hk2,Hk1.P⟩ (upd H2 a o):=R1.grow (Hk':=⟨Hk2,Hk1.P⟩) p.kn (fun b x e=>by
   have e:Hk2 b=some x:=e
   have z:b≠a:=fun z=>by rw [z,g2] at e;cases e
   rw [upd_ne z];exact p.ex b x e) sH p.fr
  have hx:∀x,o≠.own x:=fun x z=>by
   cases c with
   |lst ds=>obtain ⟨vs,y1,_⟩:=q3;have y2:=ho.symm.trans y1;rw [z] at y2;cases y2
   |dct ds=>obtain ⟨vs,y1,_⟩:=q3;have y2:=ho.symm.trans y1;rw [z] at y2;cases y2
  have R3:=R2.other (u:=o') g2 q2 q5 (fun x z=>hx x (oG ((show upd H2 a o a=some o from upd_same).symm.trans z))) q4
  rw [←eqH] at R3
  refine k v _ H2 R3 (s1.trans ⟨p.kn,fun _ _ z=>z⟩) ?_;have hres:=p.res
  cases r with
  |dat d=>exact hres
  |slt i=>cases hres
  |pv i=>cases hres
  |new c2=>
   obtain ⟨b,rfl,w1,w2,w3⟩:=hres
   exact ⟨b,rfl,w1,R1.fresh0 w2,w3,R1.pfree w2,fun j s hj hm=>R1.mutNe w2 hj hm⟩
theorem zJ7 {k:Nat} {f:Addr} {fd:FuncData} {ps:List Str} {fm:FM} {x:Str} {p pos:Pos} {e:Expr} {m:ME} (F:FnOk X.prog X.w X.K X.mg X.base CX0 k f fd ps (spF X.K fm)) (hr:Room k X.A) (hm:X.mg x=some (.ref f)) (hk:PySem.W.keepIn X.K (.ref f)=true) (hb:Binds X.K fd ps [])
  (ha:VE X e m) (hg:Gl X x:=by rfl) (hdb:(x==("__debug__":Str))=false:=by decide) (he:starEach [e] X.env=(false,eval e X.env)::starEach [] X.env:=by rfl) (hpl:(backTo pos (starEach [] X.env)).any (·.1)=false:=by rfl):
  VE X (.Call (.Name x p) [e] [] pos) (zHd fm m):=(pe_call F hr hg hm hk hb .nil pass0 (pa_cons ha pa_nil he) hdb he hpl).imp fun _ _ _=>zJP
theorem zMX {P:Program} {w:World} {mg:Str→Option Value} {base:Heap} {k:Nat} {f:Addr} {fd:FuncData} {ps:List Str}:FnOk P w K mg base CX0 k f fd ps (spF K fun _=>none):=
 ⟨fun vs H Q E ⟨_,_,_,_,_,_,z,_⟩=>(nomatch z),fun A outer s H args us vs Q E _ _ _ _ ⟨_,_,_,_,_,_,z,_⟩=>nomatch z⟩
end
end Cm
namespace Cm
open PySem L2
section
variable {X:Cx} {K:oB} {B:Fb} {env:Sl} {σ:St} {Hk H:Hp}
end
end Cm
namespace Cm
open PySem PySem.Spec PyProof.Rows L2
section
variable {X:Cx} {K:oB} {B:Fb} {env:Sl} {σ:L2.St} {Hk H:Hp}
end
end Cm
namespace Cm
open PySem L2
def spLaw (K:oB):Sp:=fun vs H Q _=>∃(a:Addr) (ns:List Int),vs=[.ref a]∧SqL K H a (ns.map V.int)∧ns.length≤63∧∀H',Q (.bl true) H'
theorem zLV {K:oB} {fm:FM} (h:∀ns:List Int,ns.length≤63→∃outs,fm [.scr ns]=some (.dat (.bool true),outs)) (vs:List V) (H:Hp) (Q:VK) (E:XK) (q:spLaw K vs H Q E):spF K fm vs H Q E:=by
 obtain ⟨a,ns,rfl,hS,hl,k⟩:=q
 obtain ⟨outs,e⟩:=h ns hl
 refine ⟨H,[.scr ns],_,outs,.refl _,⟨rfl,fun i s v e1 e2=>?_,fun i k c e1=>?_,fun i j k l c c' a e1=>?_⟩,e,fun v Hk' H' p=>?_⟩
 ·cases i with
  |zero=>
   simp at e1 e2
   subst e1 e2;exact ⟨a,rfl,hS⟩
  |succ i=>simp at e1
 ·cases i with
  |zero=>simp at e1
  |succ i=>simp at e1
 ·cases i with
  |zero=>simp at e1
  |succ i=>simp at e1
 ·have hr:Dv K Hk' v (.bool true):=p.res
  cases hr
  exact k H'
end Cm
namespace Cm
open PySem L2
theorem Rel.wipe1 {K:oB} {B:Fb} {env:Sl} {σ:St} {Hk:Kn} {H:Hp} (R:Rel K B env σ Hk H) (i:Nat):Rel K B (env.set i .no) σ Hk H:=by
 cases h:σ[i]? with
 |none=>
  have h1:=List.getElem?_eq_none_iff.mp h
  rw [List.set_eq_of_length_le (by rw [R.len];exact h1)]
  exact R
 |some o=>
  have h2:σ.set i o=σ:=by
   apply List.ext_getElem?
   intro j
   by_cases e:i=j
   ·subst e
    rw [oM (oE.mp h).1,h]
   ·rw [oH e]
  have R2:=R.setNo (i:=i) (o:=o)
  rw [h2] at R2
  exact R2
theorem Rel.wipe0 {K:oB} {B:Fb} {env:Sl} {σ:St} {Hk:Kn} {H:Hp} (R:Rel K B env σ Hk H):∀vs:List Nat,Rel K B (zAA env vs) σ Hk H
 |[]=>R
 |v::vs=>(Rel.wipe0 R vs).wipe1 v
def aft (ws:List Nat):Fl×Sl→Fl×Sl
 |(.rt r,e)=>(.rt r,e)
 |(f,e)=>(f,zAA e ws)
def mAft (ws:List Nat) (m:MS):MS:=fun env=>(m env).map (aft ws)
def mBef (ws:List Nat) (m:MS):MS:=fun env=>m (zAA env ws)
def retR (ws:List Nat):Res×Sl→Option Res
 |(.dat d,_)=>some (.dat d)
 |(.new c,_)=>some (.new c)
 |(.pv p,_)=>some (.pv p)
 |(.slt i,e)=>match e[i]? with
  |some (.val d)=>some (.dat d)
  |some (.own c)=>if ws.contains i=true then some (.new c) else none
  |_=>none
def zAI (ws:List Nat) (m:ME):MS:=fun env=>(m env).bind fun p=>(retR ws p).map fun r=>(.rt r,zAA p.2 ws)
section
variable {X:Cx} {K:oB} {m n:MS} {me:ME} {ws:List Nat} {st:Stmt} {ss:List Stmt} {e:Expr} {pos:Pos}
theorem zMj {W:WX} {D:Ends} {σ:St} {H:Hp} (h:tS K W (mAft ws m) D σ H):tS K W m D σ H:=by
 obtain ⟨B,env,Hk,f,env',R,hm,k⟩:=h
 obtain ⟨⟨f1,e1⟩,h1,hm⟩:=oD.mp hm
 refine ⟨B,env,Hk,f1,e1,R,h1,fun σ1 Hk1 H1 R1 s1=>?_⟩
 cases f1 with
 |nx=>cases hm;exact k σ1 Hk1 H1 (R1.wipe0 ws) s1
 |bk=>cases hm;exact k σ1 Hk1 H1 (R1.wipe0 ws) s1
 |ct=>cases hm;exact k σ1 Hk1 H1 (R1.wipe0 ws) s1
 |rt r=>cases hm;exact k σ1 Hk1 H1 R1 s1
 |ex C fs=>cases hm;exact k σ1 Hk1 H1 (R1.wipe0 ws) s1
theorem zMf {W:WX} {D:Ends} {σ:St} {H:Hp} (h:tS K W (mBef ws m) D σ H):tS K W m D σ H:=by
 obtain ⟨B,env,Hk,f,env',R,hm,k⟩:=h
 exact ⟨B,zAA env ws,Hk,f,env',R.wipe0 ws,hm,k⟩
theorem zBM (h:VSs X ss m):VSs X ss (mAft ws m):=h.imp fun _ _ _ _=>zMj
theorem zC1 (h:VS X st m):VS X st (mBef ws m):=h.imp fun _ _ _ _=>zMf
theorem zE2 {env:Sl} {i:Nat} {s:Slot}:∀{vs:List Nat},(zAA env vs)[i]?=some s→s=.no∨(i ∉ vs∧env[i]?=some s)
 |[],h=>.inr ⟨by simp,h⟩
 |v::vs,h=>by
  rcases zAv (show ((zAA env vs).set v .no)[i]?=some s from h) with ⟨_,z⟩|⟨ne,z⟩
  ·exact .inl z
  ·rcases zE2 z with q|⟨q1,q2⟩
   ·exact .inl q
   ·refine .inr ⟨?_,q2⟩
    intro hm
    rcases OB.mp hm with q|q
    ·exact ne q
    ·exact q1 q
theorem zKe {W:WX} {D:Ends} {σ:St} {H:Hp} (h:tS K W (zAI ws me) D σ H):tRet (tE K me) D σ H:=by
 obtain ⟨B,env,Hk,f,env',R,hm,k⟩:=h
 obtain ⟨⟨r1,e1⟩,h1,hm⟩:=oC.mp hm
 obtain ⟨r2,h2,hm⟩:=oD.mp hm
 cases hm
 refine ⟨B,env,Hk,r1,e1,R,h1,fun v Hk1 H1 R1 s1 o1=>?_⟩
 refine k σ Hk1 H1 (R1.wipe0 ws) s1 v ?_;cases r1 with
 |dat d=>
  cases h2
  exact o1
 |new c=>
  cases h2
  obtain ⟨a,e,q1,q2,q3,q5,q4⟩:=o1
  refine ⟨a,e,q1,q2,q3,q5,fun j s hj hm=>?_⟩
  rcases zE2 hj with z|⟨_,z⟩
  ·subst z;cases hm
  ·exact q4 j s z hm
 |pv p=>
  cases h2
  exact o1
 |slt i=>
  have o1:σ[i]?=some (some v):=o1
  simp only [retR] at h2
  split at h2
  ·rename_i d q
   cases h2
   obtain ⟨o,g1,v',rfl,g2⟩:=R1.slot i _ q
   rw [o1] at g1
   cases g1
   exact g2
  ·rename_i c q
   split at h2
   ·rename_i hc
    cases h2
    obtain ⟨o,g1,a,rfl,g2,g3,g4⟩:=R1.slot i _ q
    rw [o1] at g1
    cases g1
    refine ⟨a,rfl,g2,g3,g4,fun n=>R1.psep i _ a n q trivial o1,fun j s hj hm hs=>?_⟩
    rcases zE2 hj with z|⟨z1,z⟩
    ·subst z;cases hm
    ·have:=R1.sep j i s _ a z q hm trivial hs o1
     subst this;exact z1 (by simpa using hc)
   ·cases h2
  ·cases h2
theorem zAl (he:VE X e me):VS X (.Return (some e) pos) (zAI ws me):=fun W _=>(ps_ret he).imp fun _ _ _=>zKe
end
end Cm
namespace Cm
open PySem L2
def bnd {α β γ:Type} (x:Option (α×β)) (K:α→β→Option γ):Option γ:=x.bind fun p=>K p.1 p.2
section
variable {β γ δ:Type} {env e e1 e2:Sl} {R:Option β} {i j:Nat} {d dx dy:PyData} {ds es:List PyData} {m ma mb mc:ME} {ms:MA} {t u:MT} {r r1 r2:Res} {rs:List Res}
theorem c_i {α τ:Type} {X:Option α} {Y:Option τ} {out:τ→α} {K:α→Option β} {k:τ→Option γ} {h:γ→Option β} (q:X=Y.map out) (p:∀z,K (out z)=(k z).bind h):X.bind K=(Y.bind k).bind h:=by
 subst q;cases Y with
 |none=>rfl
 |some z=>exact p z
theorem c_g {α:Type} {X:Option α} {v:α} {K:α→Option β} (q:X=some v) (p:K v=R):X.bind K=R:=by
 subst q;exact p
theorem c_V {α α' τ:Type} {X:Option (α×α')} {Y:Option τ} {out:τ→α×α'} {K:α→α'→Option β} {k:τ→Option γ} {h:γ→Option β} (q:X=Y.map out) (p:∀z,K (out z).1 (out z).2=(k z).bind h):bnd X K=(Y.bind k).bind h:=c_i q p
theorem c_bp {α α':Type} {X:Option (α×α')} {v:α} {v':α'} {K:α→α'→Option β} (q:X=some (v,v')) (p:K v v'=R):bnd X K=R:=c_g q p
theorem c_C {α α':Type} {c:Bool} {a b:Option (α×α')} {K:α→α'→Option β} {A B:Option γ} {h:γ→Option β} (p:bnd a K=A.bind h) (q:bnd b K=B.bind h):bnd (if c=true then a else b) K=(if c=true then A else B).bind h:=by
 cases c
 ·exact q
 ·exact p
theorem c_w {α α' τ:Type} {c:Bool} {a b:Option (α×α')} {K:α→α'→Option β} {A B:Option τ} {k:τ→Option γ} {h:γ→Option β} (out:τ→α×α')
  (p:bnd a (fun x y=>some (x,y))=A.bind (fun z=>some (out z))) (q:bnd b (fun x y=>some (x,y))=B.bind (fun z=>some (out z))) (w:∀z,K (out z).1 (out z).2=(k z).bind h):bnd (if c=true then a else b) K=((if c=true then A else B).bind k).bind h:=by
 have f:∀{x:Option (α×α')} {Z:Option τ},bnd x (fun x y=>some (x,y))=Z.bind (fun z=>some (out z))→bnd x K=(Z.bind k).bind h:=fun {x Z} g=>by
  have:x=Z.map out:=by
   cases x with
   |none=>
    cases Z with
    |none=>rfl
    |some z=>cases g
   |some p=>
    cases Z with
    |none=>cases g
    |some z=>exact g
  subst this;cases Z with
  |none=>rfl
  |some z=>exact w z
 cases c
 ·exact f q
 ·exact f p
theorem c_Z {α α':Type} {X:Option (α×α')} {v:α} {v':α'} (h:bnd X (fun x y=>some (x,y))=some (v,v')):X=some (v,v'):=by
 cases X with
 |none=>cases h
 |some p=>exact h
theorem c_aS {α α' τ:Type} {X:Option (α×α')} {Y:Option τ} {out:τ→α×α'} (h:bnd X (fun x y=>some (x,y))=Y.bind fun z=>some (out z)):X=Y.map out:=by
 cases X with
 |none=>
  cases Y with
  |none=>rfl
  |some z=>cases h
 |some p=>
  cases Y with
  |none=>cases h
  |some z=>exact h
section
variable {K:Res→Sl→Option β}
theorem c_a (h:env[i]?=some (.val d)) (k:K (.dat d) env=R):bnd (zAc i env) K=R:=by
 unfold zAc;rw [h];exact k
theorem c_v {c:Cell} (h:env[i]?=some (.own c)) (k:K (.slt i) env=R):bnd (zAc i env) K=R:=by
 unfold zAc;rw [h];exact k
theorem c_A {n:Nat} {c:Cell} (h:env[i]?=some (.io n c)) (k:K (.slt i) env=R):bnd (zAc i env) K=R:=by
 unfold zAc;rw [h];exact k
theorem c_bs {ns:List Int} (h:env[i]?=some (.scr ns)) (k:K (.slt i) env=R):bnd (zAc i env) K=R:=by
 unfold zAc;rw [h];exact k
theorem c_c (k:K (.dat d) env=R):bnd (mC d env) K=R:=k
theorem c_m (k:bnd (m env) (fun r e=>bnd (frz (r,e)) K)=R):bnd (mFrz m env) K=R:=by
 rw [←k];unfold mFrz bnd;cases m env<;>rfl
theorem c_j (k:K (.dat d) e=R):bnd (frz (.dat d,e)) K=R:=k
theorem c_L (k:K (.dat (.list ds)) e=R):bnd (frz (.new (.lst ds),e)) K=R:=k
theorem c_aY (h:e[i]?=some (.own (.lst ds))) (hs:e.set i (.val (.list ds))=e2) (k:K (.dat (.list ds)) e2=R):bnd (frz (.slt i,e)) K=R:=by
 subst hs;simp only [frz,h];exact k
def opK (g:PyData→PyData→Option Res) (r1 r2:Res) (e:Sl) (K:Res→Sl→Option β):Option β:=(rdv e (stab r1)).bind fun dx=>(rdv e (stab r2)).bind fun dy=>(g dx dy).bind fun r=>K r e
variable {g g':PyData→PyData→Option Res}
theorem c_d (k:bnd (ma env) (fun r1 e1=>bnd (mb e1) fun r2 e2=>opK g r1 r2 e2 K)=R):bnd (mOp g ma mb env) K=R:=by
 rw [←k];unfold mOp bnd opK
 cases ma env with
 |none=>rfl
 |some p=>
  simp only [oA]
  cases mb p.2 with
  |none=>rfl
  |some q=>
   simp only [oA]
   cases rdv q.2 (stab p.1) with
   |none=>rfl
   |some x=>
    simp only [oA]
    cases rdv q.2 (stab q.1) with
    |none=>rfl
    |some y=>
     simp only [oA]
     cases g x y<;>rfl
theorem c_b (h1:rdv e (stab r1)=some dx) (h2:rdv e (stab r2)=some dy) (k:(g dx dy).bind (fun r=>K r e)=R):opK g r1 r2 e K=R:=by
 unfold opK;rw [h1,h2];exact k
def unK (g:PyData→Option Res) (r:Res) (e:Sl) (K:Res→Sl→Option β):Option β:=(rdv e (stab r)).bind fun dx=>(g dx).bind fun r=>K r e
theorem c_O {g:PyData→Option Res} (k:bnd (ma env) (fun r e=>unK g r e K)=R):bnd (mUn g ma env) K=R:=by
 rw [←k];unfold mUn bnd unK
 cases ma env with
 |none=>rfl
 |some p=>
  simp only [oA]
  cases rdv p.2 (stab p.1) with
  |none=>rfl
  |some x=>
   simp only [oA]
   cases g x<;>rfl
theorem c_N {g:PyData→Option Res} (h1:rdv e (stab r)=some dx) (k:(g dx).bind (fun r=>K r e)=R):unK g r e K=R:=by
 unfold unK;rw [h1];exact k
end
section
variable {K:Bool→Sl→Option β} {b c:Bool}
def testK (r:Res) (e:Sl) (K:Bool→Sl→Option β):Option β:=match r with
 |.dat (.bool b)=>K b e
 |_=>none
theorem c_o (k:bnd (m env) (fun r e=>testK r e K)=R):bnd (zAD m env) K=R:=by
 rw [←k];unfold zAD bnd
 cases m env with
 |none=>rfl
 |some p=>
  cases p with
  |mk r e=>
   cases r with
   |dat d=>cases d<;>rfl
   |_=>rfl
theorem c_n (k:K b e=R):testK (.dat (.bool b)) e K=R:=k
theorem c_aG (k:bnd (t env) (fun c e=>bnd (if c=true then u e else some (false,e)) K)=R):bnd (mAnd t u env) K=R:=by
 rw [←k];unfold mAnd bnd
 cases t env with
 |none=>rfl
 |some p=>cases p with|mk c e=>cases c<;>rfl
theorem c_ab (k:bnd (t env) (fun c e=>bnd (if c=true then some (true,e) else u e) K)=R):bnd (mOr t u env) K=R:=by
 rw [←k];unfold mOr bnd
 cases t env with
 |none=>rfl
 |some p=>cases p with|mk c e=>cases c<;>rfl
theorem c_R (k:bnd (t env) (fun c e=>K (!c) e)=R):bnd (mNot t env) K=R:=by
 rw [←k];unfold mNot bnd
 cases t env<;>rfl
theorem c_Y (k:K true env=R):bnd (mYes env) K=R:=k
theorem c_br (h1:t env=some (b,env)) (h2:u env=some (c,env)) (k:K (b||c) env=R):bnd (mOr t u env) K=R:=by
 unfold mOr;rw [h1]
 cases b
 ·show bnd (u env) K=R
  rw [h2];exact k
 ·exact k
end
section
variable {K:Res→Sl→Option β} {b c:Bool}
theorem c_bK (h1:ma env=some (.dat (.bool b),env)) (h2:mb env=some (.dat (.bool c),env)) (k:K (.dat (.bool (b&&c))) env=R):bnd (zEv ma mb env) K=R:=by
 unfold zEv;rw [h1]
 cases b
 ·exact k
 ·show bnd (mb env) K=R
  rw [h2];exact k
def boolK (r:Res) (e:Sl) (K:Bool→Sl→Option β):Option β:=match r with
 |.dat (.bool b)=>K b e
 |_=>none
theorem c_M {K:Bool→Sl→Option β} (k:K b e=R):boolK (.dat (.bool b)) e K=R:=k
theorem c_as (k:bnd (ma env) (fun r e=>boolK r e fun c e=>bnd (if c=true then mb e else some (.dat (.bool false),e)) K)=R):bnd (zEv ma mb env) K=R:=by
 rw [←k];unfold zEv bnd
 cases ma env with
 |none=>rfl
 |some p=>
  cases p with
  |mk r e=>
   cases r with
   |dat d=>cases d with
    |bool b=>cases b<;>rfl
    |_=>rfl
   |_=>rfl
theorem c_bq (k:bnd (ma env) (fun r e=>boolK r e fun c e=>bnd (if c=true then some (.dat (.bool true),e) else mb e) K)=R):bnd (mOrV ma mb env) K=R:=by
 rw [←k];unfold mOrV bnd
 cases ma env with
 |none=>rfl
 |some p=>
  cases p with
  |mk r e=>
   cases r with
   |dat d=>cases d with
    |bool b=>cases b<;>rfl
    |_=>rfl
   |_=>rfl
theorem c_aR (k:bnd (ma env) (fun r e=>boolK r e fun c e=>K (.dat (.bool (!c))) e)=R):bnd (zIK ma env) K=R:=by
 rw [←k];unfold zIK bnd
 cases ma env with
 |none=>rfl
 |some p=>
  cases p with
  |mk r e=>
   cases r with
   |dat d=>cases d<;>rfl
   |_=>rfl
theorem c_if (k:bnd (t env) (fun c e=>bnd (if c=true then ma e else mb e) K)=R):bnd (mIf t ma mb env) K=R:=by
 rw [←k];unfold mIf bnd
 cases t env with
 |none=>rfl
 |some p=>cases p with|mk c e=>cases c<;>rfl
theorem c_bA {g g':PyData→PyData→Option Res} {dz:PyData} (h1:ma env=some (.dat dx,env)) (h2:mb env=some (r2,env)) (h3:mc env=some (.dat dz,env)) (h4:rdv env (stab r2)=some dy) (h5:g dx dy=some (.dat (.bool b))) (h6:g' dy dz=some (.dat (.bool c))) (k:K (.dat (.bool (b&&c))) env=R):bnd (zDe g g' ma mb mc env) K=R:=by
 rw [←k];unfold zDe bnd
 have hx:rdv env (stab (.dat dx))=some dx:=rfl
 have hz:rdv env (stab (.dat dz))=some dz:=rfl
 simp only [h1,h2,hx,h4,h5,oA]
 cases b
 ·rfl
 ·simp only [h3,oA,h4,hz,h6,OA,Bool.true_and]
theorem c_aM {g g':PyData→PyData→Option Res} (k:bnd (ma env) (fun r1 e1=>bnd (mb e1) fun r2 e2=>opK g r1 r2 e2 fun r e=>boolK r e fun c e=>bnd (if c=true then (mc e).bind (fun t=>(rdv t.2 (stab r2)).bind fun dy=>(rdv t.2 (stab t.1)).bind fun dz=>(g' dy dz).map fun r=>(r,t.2)) else some (.dat (.bool false),e)) K)=R):bnd (zDe g g' ma mb mc env) K=R:=by
 rw [←k];unfold zDe bnd opK
 cases ma env with
 |none=>rfl
 |some p=>
  simp only [oA]
  cases mb p.2 with
  |none=>rfl
  |some q=>
   simp only [oA]
   cases rdv q.2 (stab p.1) with
   |none=>rfl
   |some x=>
    simp only [oA]
    cases rdv q.2 (stab q.1) with
    |none=>rfl
    |some y=>
     simp only [oA]
     cases g x y with
     |none=>rfl
     |some r=>
      cases r with
      |dat d=>cases d with
       |bool b=>cases b<;>rfl
       |_=>rfl
      |_=>rfl
variable {K':List Res→Sl→Option β}
theorem c_h (k:K' [] env=R):bnd (mNil env) K'=R:=k
theorem c_e (k:bnd (m env) (fun r e=>bnd (ms e) fun rs e'=>K' (stab r::rs) e')=R):bnd (zAe m ms env) K'=R:=by
 rw [←k];unfold zAe bnd
 cases m env with
 |none=>rfl
 |some p=>
  simp only [oA]
  cases ms p.2<;>rfl
def lstK (rs:List Res) (e:Sl) (K:Res→Sl→Option β):Option β:=(dats rs).bind fun ds=>if ds.length≤100000 then K (.new (.lst ds)) e else none
theorem c_ai (k:bnd (ms env) (fun rs e=>lstK rs e K)=R):bnd (mLst ms env) K=R:=by
 rw [←k];unfold mLst bnd lstK
 cases ms env with
 |none=>rfl
 |some p=>
  simp only [oA]
  cases dats p.1 with
  |none=>rfl
  |some ds=>
   simp only [oA]
   split<;>rfl
theorem c_ah (ds:List PyData) (h:dats rs=some ds) (hl:ds.length≤100000) (k:K (.new (.lst ds)) e=R):lstK rs e K=R:=by
 unfold lstK;rw [h]
 show (if ds.length≤100000 then _ else _)=R
 rw [if_pos hl];exact k
def tupK (rs:List Res) (e:Sl) (K:Res→Sl→Option β):Option β:=(dats rs).bind fun ds=>if ds.length≤100000 then K (.dat (.tuple ds)) e else none
theorem c_a9 (k:bnd (ms env) (fun rs e=>tupK rs e K)=R):bnd (mTup ms env) K=R:=by
 rw [←k];unfold mTup bnd tupK
 cases ms env with
 |none=>rfl
 |some p=>
  simp only [oA]
  cases dats p.1 with
  |none=>rfl
  |some ds=>
   simp only [oA]
   split<;>rfl
theorem c_a8 (ds:List PyData) (h:dats rs=some ds) (hl:ds.length≤100000) (k:K (.dat (.tuple ds)) e=R):tupK rs e K=R:=by
 unfold tupK;rw [h]
 show (if ds.length≤100000 then _ else _)=R
 rw [if_pos hl];exact k
def cbK (g:List PyData→Option Res) (rs:List Res) (e:Sl) (K:Res→Sl→Option β):Option β:=(zCa e rs).bind fun ds=>(g ds).bind fun r=>K r e
theorem c_y {g:List PyData→Option Res} (k:bnd (ms env) (fun rs e=>cbK g rs e K)=R):bnd (mCB g ms env) K=R:=by
 rw [←k];unfold mCB bnd cbK
 cases ms env with
 |none=>rfl
 |some p=>
  simp only [oA]
  cases zCa p.2 p.1 with
  |none=>rfl
  |some ds=>
   simp only [oA]
   cases g ds<;>rfl
theorem c_x {g:List PyData→Option Res} (ds:List PyData) (h:zCa e rs=some ds) (k:(g ds).bind (fun r=>K r e)=R):cbK g rs e K=R:=by
 unfold cbK;rw [h];exact k
def bmK (T:String) (g:PyData→List PyData→Option Res) (ms:MA) (r:Res) (e:Sl) (K:Res→Sl→Option β):Option β:=(rdv e (stab r)).bind fun d0=>if tyD T d0=true then bnd (ms e) fun rs e'=>(rdv e' (stab r)).bind fun d=>(zCa e' rs).bind fun ds=>(g d ds).bind fun r=>K r e' else none
theorem c_bm {T:String} {g:PyData→List PyData→Option Res} (k:bnd (m env) (fun r e=>bmK T g ms r e K)=R):bnd (mBM T g m ms env) K=R:=by
 rw [←k];unfold mBM bnd bmK
 cases m env with
 |none=>rfl
 |some p=>
  simp only [oA]
  cases rdv p.2 (stab p.1) with
  |none=>rfl
  |some d0=>
   simp only [oA]
   split
   ·unfold bnd
    cases ms p.2 with
    |none=>rfl
    |some q=>
     simp only [oA]
     cases rdv q.2 (stab p.1) with
     |none=>rfl
     |some d=>
      simp only [oA]
      cases zCa q.2 q.1 with
      |none=>rfl
      |some ds=>
       simp only [oA]
       cases g d ds<;>rfl
   ·rfl
def bmK2 (g:PyData→List PyData→Option Res) (r:Res) (rs:List Res) (e:Sl) (K:Res→Sl→Option β):Option β:=(rdv e (stab r)).bind fun d=>(zCa e rs).bind fun ds=>(g d ds).bind fun r=>K r e
theorem c_bE {T:String} {g:PyData→List PyData→Option Res} (d0:PyData) (h1:rdv e (stab r)=some d0) (h2:tyD T d0=true) (k:bnd (ms e) (fun rs e'=>bmK2 g r rs e' K)=R):bmK T g ms r e K=R:=by
 unfold bmK;rw [h1]
 simp only [oA,h2,if_true]
 exact k
theorem c_bD {g:PyData→List PyData→Option Res} (d:PyData) (ds:List PyData) (h1:rdv e (stab r)=some d) (h2:zCa e rs=some ds) (k:(g d ds).bind (fun r=>K r e)=R):bmK2 g r rs e K=R:=by
 unfold bmK2;rw [h1,h2];exact k
end
section
variable {K:Res→Sl→Option β} {fm:FM} {io:Option Nat} {ins:Sl}
def zKL (fm:FM) (io:Option Nat) (rs:List Res) (e:Sl) (K:Res→Sl→Option β):Option β:=if zEF io rs=true then (zDz true io e 0 rs).bind fun ins=>(fm ins).bind fun q=>if (flatR q.1&&q.2.all flatS)=true then (zBH io e rs q.2).bind fun e'=>K q.1 e' else none else none
theorem c_s (k:bnd (ms env) (fun rs e=>zKL fm io rs e K)=R):bnd (zAs fm io ms env) K=R:=by
 rw [←k];unfold zAs bnd zKL
 cases ms env with
 |none=>rfl
 |some p=>
  simp only [oA]
  split
  ·cases zDz true io p.2 0 p.1 with
   |none=>rfl
   |some ins=>
    simp only [oA]
    cases fm ins with
    |none=>rfl
    |some q=>
     simp only [oA]
     split
     ·cases zBH io p.2 p.1 q.2<;>rfl
     ·rfl
  ·rfl
theorem c_r {τ:Type} {Y:Option τ} {out:τ→Res×Sl} {bk:τ→Sl} {k:τ→Option γ} {h:γ→Option β} (h1:zEF io rs=true) (h2:zDz true io e 0 rs=some ins) (q:fm ins=Y.map out) (hf:∀z,(flatR (out z).1&&(out z).2.all flatS)=true) (hb:∀z,zBH io e rs (out z).2=some (bk z)) (p:∀z,K (out z).1 (bk z)=(k z).bind h):zKL fm io rs e K=(Y.bind k).bind h:=by
 unfold zKL;rw [if_pos h1,h2,oA,q];cases Y with
 |none=>rfl
 |some z=>
  show (if (flatR (out z).1&&(out z).2.all flatS)=true then (zBH io e rs (out z).2).bind fun e'=>K (out z).1 e' else none)=_
  rw [if_pos (hf z),hb z];exact p z
def zIv (fm:FM) (io:Option Nat) (rs:List Res) (e:Sl) (K:Res→Sl→Option β):Option β:=(zDz false io e 0 rs).bind fun ins=>(fm ins).bind fun q=>(zBH io e rs q.2).bind fun e'=>K q.1 e'
theorem c_aA (k:bnd (ms env) (fun rs e=>zIv fm io rs e K)=R):bnd (zDD fm io ms env) K=R:=by
 rw [←k];unfold zDD bnd zIv
 cases ms env with
 |none=>rfl
 |some p=>
  simp only [oA]
  cases zDz false io p.2 0 p.1 with
  |none=>rfl
  |some ins=>
   simp only [oA]
   cases fm ins with
   |none=>rfl
   |some q=>
    simp only [oA]
    cases zBH io p.2 p.1 q.2<;>rfl
theorem c_az {τ:Type} {Y:Option τ} {out:τ→Res×Sl} {bk:τ→Sl} {k:τ→Option γ} {h:γ→Option β} (h2:zDz false io e 0 rs=some ins) (q:fm ins=Y.map out) (hb:∀z,zBH io e rs (out z).2=some (bk z)) (p:∀z,K (out z).1 (bk z)=(k z).bind h):zIv fm io rs e K=(Y.bind k).bind h:=by
 unfold zIv;rw [h2,oA,q];cases Y with
 |none=>rfl
 |some z=>
  show ((zBH io e rs (out z).2).bind fun e'=>K (out z).1 e')=_
  rw [hb z];exact p z
def zJQ (fm:FM) (r:Res) (e:Sl) (K:Res→Sl→Option β):Option β:=match r with
 |.new c=>(fm [.io 0 c]).bind fun q=>K q.1 e
 |_=>none
theorem c_bC (k:bnd (m env) (fun r e=>zJQ fm r e K)=R):bnd (zHd fm m env) K=R:=by
 rw [←k];unfold zHd bnd zJQ
 cases m env with
 |none=>rfl
 |some p=>
  cases p with
  |mk r e=>
   cases r with
   |new c=>
    simp only [oA]
    cases fm [.io 0 c]<;>rfl
   |_=>rfl
theorem c_bB {τ:Type} {Y:Option τ} {out:τ→Res×Sl} {c:Cell} {k:τ→Option γ} {h:γ→Option β} (q:fm [.io 0 c]=Y.map out) (p:∀z,K (out z).1 e=(k z).bind h):zJQ fm (.new c) e K=(Y.bind k).bind h:=by
 show (fm [.io 0 c]).bind (fun q=>K q.1 e)=_
 rw [q];cases Y with
 |none=>rfl
 |some z=>exact p z
def mutK (i:Nat) (f:List PyData→List PyData→Option (List PyData×PyData)) (rs:List Res) (e:Sl) (K:Res→Sl→Option β):Option β:=(dats rs).bind fun es=>(lstAt e i).bind fun q=>(f q.2 es).bind fun z=>K (.dat z.2) (e.set i (q.1.put (.lst z.1)))
theorem c_ax {f:List PyData→List PyData→Option (List PyData×PyData)} {q:Slot×List PyData} (h:lstAt env i=some q) (k:bnd (ms env) (fun rs e=>mutK i f rs e K)=R):bnd (mMut i f ms env) K=R:=by
 rw [←k];unfold mMut bnd mutK
 rw [h];simp only [oA]
 cases ms env with
 |none=>rfl
 |some p=>
  simp only [oA]
  cases dats p.1 with
  |none=>rfl
  |some es=>
   simp only [oA]
   cases lstAt p.2 i with
   |none=>rfl
   |some q=>
    simp only [oA]
    cases f q.2 es<;>rfl
end
section
variable {K:Fl→Sl→Option β} {a b:MS} {ws:List Nat}
def seqK (b:MS) (f:Fl) (e:Sl) (K:Fl→Sl→Option β):Option β:=match f with
 |.nx=>bnd (b e) K
 |f=>K f e
theorem c_l (k:bnd (a env) (fun f e=>seqK b f e K)=R):bnd (mSeq a b env) K=R:=by
 rw [←k];unfold mSeq bnd seqK
 cases a env with
 |none=>rfl
 |some p=>
  cases p with
  |mk f e=>cases f<;>rfl
theorem c_k (k:bnd (b e) K=R):seqK b .nx e K=R:=k
theorem c_E (k:K (.rt r) e=R):seqK b (.rt r) e K=R:=k
theorem c_z (k:K .nx env=R):bnd (zBF env) K=R:=k
theorem c_an (k:bnd (m env) (fun r e=>K .nx e)=R):bnd (zEO m env) K=R:=by
 rw [←k];unfold zEO bnd
 cases m env<;>rfl
def retK (ws:List Nat) (r:Res) (e:Sl) (K:Fl→Sl→Option β):Option β:=(retR ws (r,e)).bind fun r=>K (.rt r) (zAA e ws)
theorem c_q (k:bnd (m env) (fun r e=>retK ws r e K)=R):bnd (zAI ws m env) K=R:=by
 rw [←k];unfold zAI bnd retK
 cases m env with
 |none=>rfl
 |some p=>
  simp only [oA]
  cases retR ws p<;>rfl
theorem c_p (r':Res) (h:retR ws (r,e)=some r') (hw:zAA e ws=e2) (k:K (.rt r') e2=R):retK ws r e K=R:=by
 unfold retK;rw [h,hw];exact k
theorem c_B (k:bnd (t env) (fun c e=>bnd (if c=true then a e else b e) K)=R):bnd (mIfS t a b env) K=R:=by
 rw [←k];unfold mIfS bnd
 cases t env with
 |none=>rfl
 |some p=>cases p with|mk c e=>cases c<;>rfl
def setK (i:Nat) (r:Res) (e:Sl) (K:Fl→Sl→Option β):Option β:=(zF2 i (r,e)).bind fun e=>K .nx e
theorem c_u (k:bnd (m env) (fun r e=>setK i r e K)=R):bnd (mSet i m env) K=R:=by
 rw [←k];unfold mSet bnd setK
 cases m env with
 |none=>rfl
 |some p=>
  simp only [oA]
  cases zF2 i p<;>rfl
theorem c_K (hs:e.set i (.val d)=e2) (k:K .nx e2=R):setK i (.dat d) e K=R:=by
 subst hs;exact k
theorem c_aQ {c:Cell} (hs:e.set i (.own c)=e2) (k:K .nx e2=R):setK i (.new c) e K=R:=by
 subst hs;exact k
theorem c_J (k:bnd (a env) (fun f e=>bnd (some (aft ws (f,e))) K)=R):bnd (mAft ws a env) K=R:=by
 rw [←k];unfold mAft bnd
 cases a env<;>rfl
theorem c_G (hw:zAA e ws=e2) (k:K .nx e2=R):bnd (some (aft ws (.nx,e))) K=R:=by
 subst hw;exact k
theorem c_ao (k:K (.rt r) e=R):bnd (some (aft ws (.rt r,e))) K=R:=k
theorem c_X (hw:zAA env ws=e2) (k:bnd (a e2) K=R):bnd (mBef ws a env) K=R:=by
 subst hw;exact k
def augK (i:Nat) (a:Int) (f:Int→Int→Int) (r:Res) (e:Sl) (K:Fl→Sl→Option β):Option β:=match r with
 |.dat (.int b)=>K .nx (e.set i (.val (.int (f a b))))
 |_=>none
theorem c_bJ {x:Int} {f:Int→Int→Int} (h:env[i]?=some (.val (.int x))) (k:bnd (m env) (fun r e=>augK i x f r e K)=R):bnd (zIM i f m env) K=R:=by
 rw [←k];unfold zIM bnd augK
 rw [h];simp only
 cases m env with
 |none=>rfl
 |some p=>
  cases p with
  |mk r e=>
   cases r with
   |dat d=>cases d<;>rfl
   |_=>rfl
def asgK (g:MG) (r:Res) (e:Sl) (K:Fl→Sl→Option β):Option β:=match r with
 |.dat d=>(g d e).bind fun e=>K .nx e
 |_=>none
theorem c_aC {g:MG} (k:bnd (m env) (fun r e=>bnd (frz (r,e)) fun r e=>asgK g r e K)=R):bnd (mAsg m g env) K=R:=by
 rw [←k];unfold mAsg mFrz bnd
 cases m env with
 |none=>rfl
 |some p=>
  simp only [oA]
  cases hq:frz p with
  |none=>rfl
  |some q=>
   cases q with
   |mk r e=>
    cases r with
    |dat d=>
     show ((g d e).map _).bind _=_
     simp only [oA,asgK]
     cases g d e<;>rfl
    |_=>rfl
theorem c_aB {g:MG} (k:(g d e).bind (fun e=>K .nx e)=R):asgK g (.dat d) e K=R:=k
end
section
variable {K:Sl→Option β}
theorem c_t (hs:e.set j (.val d)=e2) (k:K e2=R):(zAi j d e).bind K=R:=by
 subst hs;exact k
theorem c_af {gs:MGs} (k:(gs ds e).bind K=R):(zCN gs (.tuple ds) e).bind K=R:=k
theorem c_F {g:MG} {gs:MGs} (k:(g d e).bind (fun e=>(gs ds e).bind K)=R):(zAz g gs (d::ds) e).bind K=R:=by
 rw [←k];show ((g d e).bind _).bind K=_
 cases g d e<;>rfl
theorem c_ag (k:K e=R):(zCA [] e).bind K=R:=k
def subK (i:Nat) (d:PyData) (r:Res) (e:Sl) (K:Sl→Option β):Option β:=match r with
 |.dat (.int k)=>(lstAt e i).bind fun q=>(ixN q.2.length k).bind fun j=>K (e.set i (q.1.put (.lst (q.2.set j d))))
 |_=>none
theorem c_aK {q:Slot×List PyData} (h:lstAt e i=some q) (k:bnd (m e) (fun r e=>subK i d r e K)=R):(zHO i m d e).bind K=R:=by
 rw [←k];unfold zHO bnd
 rw [h];simp only [oA]
 cases m e with
 |none=>rfl
 |some p=>
  cases p with
  |mk r e=>
   cases r with
   |dat x=>
    cases x with
    |int z=>
     simp only [oA,subK]
     cases lstAt e i with
     |none=>rfl
     |some q=>
      simp only [oA]
      cases ixN q.2.length z<;>rfl
    |_=>rfl
   |_=>rfl
def pSet {α:Type} (l:List α) (i:Int) (x:α):Option (List α):=(ixN l.length i).map fun k=>l.set k x
theorem c_bw {α:Type} {ec:α→PyData} {l:List α} {x:α} {z:Int} {s:Slot} {k:List α→Option γ} {h:γ→Option β} (h1:lstAt e i=some (s,l.map ec)) (p:∀l':List α,K (e.set i (s.put (.lst (l'.map ec))))=(k l').bind h):subK i (ec x) (.dat (.int z)) e K=((pSet l z x).bind k).bind h:=by
 show ((lstAt e i).bind fun q=>(ixN q.2.length z).bind fun j=>K (e.set i (q.1.put (.lst (q.2.set j (ec x))))))=_
 rw [h1];simp only [oA,oJ,pSet]
 cases ixN l.length z with
 |none=>rfl
 |some n=>
  show K (e.set i (s.put (.lst ((l.map ec).set n (ec x)))))=(k (l.set n x)).bind h
  rw [←p,List.map_set]
end
end
end Cm
namespace Cm
open PySem L2
abbrev eI:Int→PyData:=PyData.int
abbrev eB:Bool→PyData:=PyData.bool
abbrev eS:Str→PyData:=PyData.str
abbrev eU:Unit→PyData:=fun _=>.none
abbrev eD:PyData→PyData:=fun d=>d
section
variable {α β γ δ ε ζ:Type}
abbrev eL (e:α→PyData):List α→PyData:=fun l=>.list (l.map e)
abbrev eV (e:α→PyData):List α→PyData:=fun l=>.tuple (l.map e)
abbrev eT2 (a:α→PyData) (b:β→PyData):α×β→PyData:=fun p=>.tuple [a p.1,b p.2]
abbrev eT3 (a:α→PyData) (b:β→PyData) (c:γ→PyData):α×β×γ→PyData:=fun p=>.tuple [a p.1,b p.2.1,c p.2.2]
def eO (e:α→PyData):Option α→PyData
 |none=>.none
 |some x=>e x
end
def gd (p:Prop) [Decidable p]:Option Unit:=if p then some () else none
def pMul (i j:Int):Option Int:=if (-(2 ^ 64)<i∧i<2 ^ 64)∨(-(2 ^ 64)<j∧j<2 ^ 64) then some (i*j) else none
def pDiv (i j:Int):Option Int:=if 0<j∧j<1073741824 then some (i / j) else none
def pMod (i j:Int):Option Int:=if 0<j then some (i % j) else none
theorem zE1 {i j:Int}:gMul (.int i) (.int j)=(pMul i j).map (fun z=>.dat (.int z)):=by
 simp only [gMul,pMul];split<;>rfl
theorem zFP {i j:Int}:gDiv (.int i) (.int j)=(pDiv i j).map (fun z=>.dat (.int z)):=by
 simp only [gDiv,pDiv];split<;>rfl
theorem zGh {i j:Int}:gMod (.int i) (.int j)=(pMod i j).map (fun z=>.dat (.int z)):=by
 simp only [gMod,pMod];split<;>rfl
theorem zH3 {i j:Int} (h: -(2 ^ 64)<i∧i<2 ^ 64):gMul (.int i) (.int j)=some (.dat (.int (i*j))):=by
 simp only [gMul,if_pos (Or.inl h)]
theorem zKS {i j:Int} (h: -(2 ^ 64)<j∧j<2 ^ 64):gMul (.int i) (.int j)=some (.dat (.int (i*j))):=by
 simp only [gMul,if_pos (Or.inr h)]
theorem zMB {i j:Int} (h:0<j∧j<1073741824):gDiv (.int i) (.int j)=some (.dat (.int (i / j))):=by
 simp only [gDiv,if_pos h]
theorem zEy {i j:Int} (h:0<j):gMod (.int i) (.int j)=some (.dat (.int (i % j))):=by
 simp only [gMod,if_pos h]
theorem zCq {i j:Int}:gAdd (.int i) (.int j)=some (.dat (.int (i+j))):=rfl
theorem zMo {i j:Int}:zHh (.int i) (.int j)=some (.dat (.int (i - j))):=rfl
theorem zE0 {i:Int}:gNeg (.int i)=some (.dat (.int (-i))):=rfl
theorem zDy {p:Int→Int→Bool} {i j:Int}:gCmp p (.int i) (.int j)=some (.dat (.bool (p i j))):=rfl
theorem zKU {f:Int→Int} {i:Int}:zJC f [.int i]=some (.dat (.int (f i))):=rfl
theorem zMt {f:Int→Int→Int} {i j:Int}:zKE f [.int i,.int j]=some (.dat (.int (f i j))):=rfl
theorem zMs {b:Bool}:gInt [.bool b]=some (.dat (.int (if b then 1 else 0))):=rfl
def pStr (i:Int):Option Str:=if i.natAbs.log2<1920 then some (toString i) else none
theorem x_str {i:Int}:gStr [.int i]=(pStr i).map (fun z=>.dat (.str z)):=by
 simp only [gStr,pStr];split<;>rfl
theorem zMx {neg:Bool} {a b:Int}:gEq neg (.int a) (.int b)=some (.dat (.bool (neg ^^ decide (a=b)))):=by
 simp only [gEq,zGn,Bool.true_or,if_true]
 rfl
theorem zMA {neg:Bool} {a b:Bool}:gEq neg (.bool a) (.bool b)=some (.dat (.bool (neg ^^ decide (a=b)))):=by
 simp only [gEq,zGn,Bool.true_or,if_true,PyData.eqv]
 cases a<;>cases b<;>rfl
theorem zMw {neg:Bool} {a b:Str}:gEq neg (.str a) (.str b)=some (.dat (.bool (neg ^^ decide (a=b)))):=by
 simp only [gEq,zGn,Bool.true_or,if_true]
 rfl
def pEqD (neg:Bool) (dx dy:PyData):Option Bool:=if (zGn dx dy||(SeqAt.shaped dx&&SeqAt.shaped dy))=true then some (neg ^^ PyData.eqv dx dy) else none
theorem zMy {neg:Bool} {dx dy:PyData}:gEq neg dx dy=(pEqD neg dx dy).map (fun z=>.dat (.bool z)):=by
 simp only [gEq,pEqD];split<;>rfl
structure EqE {α:Type} (e:α→PyData) [DecidableEq α]:Prop where
 eq:∀x y,PyData.eqv (e x) (e y)=decide (x=y)
theorem zMa:EqE eI:=⟨fun _ _=>rfl⟩
theorem zF7 {α:Type} [DecidableEq α] {e:α→PyData} (h:EqE e):∀xs ys:List α,PyData.eqvAll (xs.map e) (ys.map e)=decide (xs=ys)
 |[],[]=>rfl
 |[],_::_=>rfl
 |_::_,[]=>rfl
 |x::xs,y::ys=>by
  show (PyData.eqv (e x) (e y)&&PyData.eqvAll (xs.map e) (ys.map e))=_
  rw [zF7 h xs ys,h.eq]
  simp
def zKI (l:List Int):SeqAt.shaped (.list (l.map .int))=true:=by
 have h1:∀l:List Int,PyData.canLayAll0 (l.map .int)=true:=fun l=>by
  induction l with
  |nil=>rfl
  |cons x l ih=>simp [PyData.canLayAll0,PyData.canLay0,ih]
 have h2:∀l:List Int,PyData.depthAll (l.map .int)≤1:=fun l=>by
  induction l with
  |nil=>simp [PyData.depthAll]
  |cons x l ih=>simp [PyData.depthAll,PyData.depth];omega
 have h3:=h2 l
 have h4:PyData.depth (.list (l.map .int))≤64:=by
  simp only [PyData.depth]
  omega
 simp [SeqAt.shaped,PyData.canLay0,h1,h4]
theorem zKV {neg:Bool} {a b:List Int}:gEq neg (.list (a.map .int)) (.list (b.map .int))=some (.dat (.bool (neg ^^ decide (a=b)))):=by
 simp only [gEq,zKI,Bool.and_self,Bool.or_true,if_true]
 show some (Res.dat (.bool (neg ^^ PyData.eqvAll (a.map .int) (b.map .int))))=_
 rw [zF7 zMa]
def pIx {α:Type} (l:List α) (i:Int):Option α:=atI l i
theorem zJT {α β:Type} (f:α→β) (l:List α) (i:Int):atI (l.map f) i=(atI l i).map f:=by
 unfold atI;rw [oJ];cases ixN l.length i with
 |none=>rfl
 |some k=>simp [oO]
theorem x_ix {α:Type} {e:α→PyData} {l:List α} {i:Int}:gIx (.list (l.map e)) (.int i)=(pIx l i).map (fun z=>.dat (e z)):=by
 show (atI (l.map e) i).map Res.dat=_
 rw [zJT,Option.map_map];rfl
theorem x_ixV {α:Type} {e:α→PyData} {l:List α} {i:Int}:gIx (.tuple (l.map e)) (.int i)=(pIx l i).map (fun z=>.dat (e z)):=by
 show (atI (l.map e) i).map Res.dat=_
 rw [zJT,Option.map_map];rfl
def pIxS (z:Str) (i:Int):Option Str:=if z.length≤100000 then (atI z.cps.toList i).map fun c=>⟨#[c]⟩ else none
theorem x_ixS {z:Str} {i:Int}:gIx (.str z) (.int i)=(pIxS z i).map (fun z=>.dat (.str z)):=by
 simp only [gIx,pIxS]
 split
 ·rw [Option.map_map];rfl
 ·rfl
theorem x_ixT {ds:List PyData} {i:Int} {d:PyData} (h:atI ds i=some d):gIx (.tuple ds) (.int i)=some (.dat d):=by
 simp only [gIx,h];rfl
def pCat {α:Type} (a b:List α):Option (List α):=if a.length+b.length≤100000 then some (a++b) else none
theorem x_cat {α:Type} {e:α→PyData} {a b:List α}:gAdd (.list (a.map e)) (.list (b.map e))=(pCat a b).map (fun l=>.new (.lst (l.map e))):=by
 simp only [gAdd,pCat,oJ]
 split
 ·simp
 ·rfl
def zD7 (a b:Str):Option Str:=if a.length+b.length≤100000 then some (a++b) else none
theorem zKY {a b:Str}:gAdd (.str a) (.str b)=(zD7 a b).map (fun z=>.dat (.str z)):=by
 simp only [gAdd,zD7];split<;>rfl
def repL {α:Type} (l:List α) (k:Int):List α:=(List.replicate k.toNat l).flatten
def pRep {α:Type} (l:List α) (k:Int):Option (List α):=if -(2 ^ 63)≤k∧k<2 ^ 63∧l.length*k.toNat≤100000 then some (repL l k) else none
theorem x_rep {α:Type} {e:α→PyData} {l:List α} {k:Int}:gMul (.list (l.map e)) (.int k)=(pRep l k).map (fun l=>.new (.lst (l.map e))):=by
 simp only [gMul,pRep,oJ]
 split
 ·simp [repD,repL,List.map_flatten,List.map_replicate]
 ·rfl
theorem zGK {α:Type} {e:α→PyData} {l:List α}:gLen [.list (l.map e)]=some (.dat (.int l.length)):=by
 simp only [gLen,oJ]
def zKj (x:Str):Option Int:=if x.length≤100000 then some x.length else none
theorem zMq {x:Str}:gLen [.str x]=(zKj x).map (fun z=>.dat (.int z)):=by
 simp only [gLen,zKj];split<;>rfl
theorem zHx {ds:List PyData}:zIO [.list ds]=some (.new (.lst ds)):=rfl
theorem zHg:∀l:List Int,zJz (l.map .int)=some l
 |[]=>rfl
 |x::l=>by
  show (zJz (l.map .int)).map (x::·)=_
  rw [zHg l];rfl
theorem zGe:∀l:List Bool,zHs (l.map .bool)=some l
 |[]=>rfl
 |x::l=>by
  show (zHs (l.map .bool)).map (x::·)=_
  rw [zGe l];rfl
theorem zMn {l:List Int}:gSum [.list (l.map .int)]=some (.dat (.int l.sum)):=by
 simp only [gSum,zHg];rfl
theorem zIT {l:List Bool}:gAll [.list (l.map .bool)]=some (.dat (.bool (l.all id))):=by
 simp only [gAll,zGe];rfl
def cutL {α:Type} (l:List α) (lo hi:Option Int):List α:=(l.drop (HT.sIx l.length 0 lo)).take (HT.sIx l.length l.length hi - HT.sIx l.length 0 lo)
theorem zHy {α:Type} {e:α→PyData} {l:List α} {lo hi:Option Int}:gSlL (.list (l.map e)) lo hi=some (.new (.lst ((cutL l lo hi).map e))):=by
 simp only [gSlL,cutD,cutL,oJ,List.map_take,List.map_drop]
def pApp {α:Type} (l:List α) (x:α):Option (List α):=if l.length<100000 then some (l++[x]) else none
theorem zMC {α:Type} {e:α→PyData} {l:List α} {x:α}:fApp (l.map e) [e x]=(pApp l x).map (fun l=>(l.map e,.none)):=by
 simp only [fApp,pApp,oJ]
 split
 ·simp
 ·rfl
theorem zMu {α:Type} {e:α→PyData} {l l':List α}:fExt (l.map e) [.list (l'.map e)]=(pCat l l').map (fun l=>(l.map e,.none)):=by
 simp only [fExt,pCat,oJ]
 split
 ·simp
 ·rfl
def zD5 (n:Int):List Int:=(List.range n.toNat).map fun i:Nat=>(i:Int)
def pRng (n:Int):Option (List Int):=if -(2 ^ 62)≤n∧n<2 ^ 62 then some (zD5 n) else none
def zDC (i j:Int):List Int:=(List.range (j - i).toNat).map fun k:Nat=>i+(k:Int)
def zHK (i j:Int):Option (List Int):=if (-(2 ^ 62)≤i∧i<2 ^ 62)∧ -(2 ^ 62)≤j∧j<2 ^ 62 then some (zDC i j) else none
def zHJ (i j c:Int):Option (List Int):=if (c≠0∧c.natAbs<1073741824)∧Builtin.Range.small i j c=true then some ((List.range (Builtin.Range.rangeSize i j c).toNat).map fun k=>i+(k:Nat)*c) else none
def zGG {α:Type}:Nat→List α→List (Int×α)
 |_,[]=>[]
 |i,x::l=>((i:Int),x)::zGG (i+1) l
theorem zIm {α:Type} {e:α→PyData}:∀(i:Nat) (l:List α),zEP i (l.map e)=(zGG i l).map (eT2 eI e)
 |_,[]=>rfl
 |i,x::l=>by
  show _::zEP (i+1) (l.map e)=_
  rw [zIm (i+1) l];rfl
theorem zHv {α β:Type} {e:α→PyData} {f:β→PyData}:∀(l:List α) (l':List β),zipD (l.map e) (l'.map f)=(l.zip l').map (eT2 e f)
 |[],_=>by cases ‹List β›<;>rfl
 |_::_,[]=>rfl
 |x::l,y::l'=>by
  show _::zipD (l.map e) (l'.map f)=_
  rw [zHv l l'];rfl
section
variable {β γ:Type} {env e e2:Sl} {R:Option β} {m:ME} {ms:MA} {K:List PyData→Sl→Option β} {ds:List PyData}
def itLK (r:Res) (e:Sl) (K:List PyData→Sl→Option β):Option β:=match r with
 |.dat (.list ds)=>K ds e
 |_=>none
theorem c_ar (k:bnd (m env) (fun r e=>bnd (frz (r,e)) fun r e=>itLK r e K)=R):bnd (mItL m env) K=R:=by
 rw [←k];unfold mItL mFrz bnd
 cases m env with
 |none=>rfl
 |some p=>
  simp only [oA]
  cases frz p with
  |none=>rfl
  |some q=>
   cases q with
   |mk r e=>
    cases r with
    |dat d=>cases d<;>rfl
    |_=>rfl
theorem c_aq (k:K ds e=R):itLK (.dat (.list ds)) e K=R:=k
def itTK (r:Res) (e:Sl) (K:List PyData→Sl→Option β):Option β:=match r with
 |.dat (.tuple ds)=>K ds e
 |_=>none
theorem c_aU (k:bnd (m env) (fun r e=>bnd (frz (r,e)) fun r e=>itTK r e K)=R):bnd (mItT m env) K=R:=by
 rw [←k];unfold mItT mFrz bnd
 cases m env with
 |none=>rfl
 |some p=>
  simp only [oA]
  cases frz p with
  |none=>rfl
  |some q=>
   cases q with
   |mk r e=>
    cases r with
    |dat d=>cases d<;>rfl
    |_=>rfl
theorem c_aT (k:K ds e=R):itTK (.dat (.tuple ds)) e K=R:=k
def rngK (rs:List Res) (e:Sl) (K:List PyData→Sl→Option β):Option β:=(zCa e rs).bind fun ds=>match ds with
 |[.int j]=>(pRng j).bind fun l=>K (l.map eI) e
 |_=>none
theorem c_aE (k:bnd (ms env) (fun rs e=>rngK rs e K)=R):bnd (zDd ms env) K=R:=by
 rw [←k];unfold zDd bnd rngK
 cases ms env with
 |none=>rfl
 |some p=>
  simp only [oA]
  cases zCa p.2 p.1 with
  |none=>rfl
  |some ds=>
   simp only [oA]
   rcases ds with _|⟨d1,_|⟨d2,_|⟨d3,_|⟨d4,ds⟩⟩⟩⟩
   ·rfl
   ·cases d1 with
    |int i=>
     simp only [pRng]
     split
     ·simp [zD5,Function.comp_def]
     ·rfl
    |_=>rfl
   ·cases d1<;>first|rfl|(cases d2<;>first|rfl|(cases d3<;>first|rfl|(cases d4<;>rfl)))
   ·cases d1<;>first|rfl|(cases d2<;>first|rfl|(cases d3<;>first|rfl|(cases d4<;>rfl)))
   ·cases d1<;>first|rfl|(cases d2<;>first|rfl|(cases d3<;>first|rfl|(cases d4<;>rfl)))
theorem c_aD {j:Int} {rs:List Res} {k:List Int→Option γ} {h:γ→Option β} (h1:zCa e rs=some [.int j]) (p:∀l,K (l.map eI) e=(k l).bind h):rngK rs e K=((pRng j).bind k).bind h:=by
 unfold rngK;rw [h1]
 show ((pRng j).bind fun l=>K (l.map eI) e)=_
 cases pRng j with
 |none=>rfl
 |some l=>exact p l
def zKc (rs:List Res) (e:Sl) (K:List PyData→Sl→Option β):Option β:=(zCa e rs).bind fun ds=>match ds with
 |[.int i,.int j]=>(zHK i j).bind fun l=>K (l.map eI) e
 |_=>none
theorem c_bh (k:bnd (ms env) (fun rs e=>zKc rs e K)=R):bnd (zFA ms env) K=R:=by
 rw [←k];unfold zFA bnd zKc
 cases ms env with
 |none=>rfl
 |some p=>
  simp only [oA]
  cases zCa p.2 p.1 with
  |none=>rfl
  |some ds=>
   simp only [oA]
   rcases ds with _|⟨d1,_|⟨d2,_|⟨d3,_|⟨d4,ds⟩⟩⟩⟩
   ·rfl
   ·cases d1<;>first|rfl|(cases d2<;>first|rfl|(cases d3<;>first|rfl|(cases d4<;>rfl)))
   ·cases d1 with
    |int i=>
     cases d2 with
     |int j=>
      simp only [zHK]
      split
      ·simp [zDC,Function.comp_def]
      ·rfl
     |_=>rfl
    |_=>rfl
   ·cases d1<;>first|rfl|(cases d2<;>first|rfl|(cases d3<;>first|rfl|(cases d4<;>rfl)))
   ·cases d1<;>first|rfl|(cases d2<;>first|rfl|(cases d3<;>first|rfl|(cases d4<;>rfl)))
theorem c_bg {i j:Int} {rs:List Res} {k:List Int→Option γ} {h:γ→Option β} (h1:zCa e rs=some [.int i,.int j]) (p:∀l,K (l.map eI) e=(k l).bind h):zKc rs e K=((zHK i j).bind k).bind h:=by
 unfold zKc;rw [h1]
 show ((zHK i j).bind fun l=>K (l.map eI) e)=_
 cases zHK i j with
 |none=>rfl
 |some l=>exact p l
def zKb (rs:List Res) (e:Sl) (K:List PyData→Sl→Option β):Option β:=(zCa e rs).bind fun ds=>match ds with
 |[.int i,.int j,.int c]=>(zHJ i j c).bind fun l=>K (l.map eI) e
 |_=>none
theorem c_bf (k:bnd (ms env) (fun rs e=>zKb rs e K)=R):bnd (zFz ms env) K=R:=by
 rw [←k];unfold zFz bnd zKb
 cases ms env with
 |none=>rfl
 |some p=>
  simp only [oA]
  cases zCa p.2 p.1 with
  |none=>rfl
  |some ds=>
   simp only [oA]
   rcases ds with _|⟨d1,_|⟨d2,_|⟨d3,_|⟨d4,ds⟩⟩⟩⟩
   ·rfl
   ·cases d1<;>first|rfl|(cases d2<;>first|rfl|(cases d3<;>first|rfl|(cases d4<;>rfl)))
   ·cases d1<;>first|rfl|(cases d2<;>first|rfl|(cases d3<;>first|rfl|(cases d4<;>rfl)))
   ·cases d1 with
    |int i=>
     cases d2 with
     |int j=>
      cases d3 with
      |int c=>
       simp only [zHJ]
       split
       ·simp [Function.comp_def]
       ·rfl
      |_=>rfl
     |_=>rfl
    |_=>rfl
   ·cases d1<;>first|rfl|(cases d2<;>first|rfl|(cases d3<;>first|rfl|(cases d4<;>rfl)))
theorem c_be {i j c:Int} {rs:List Res} {k:List Int→Option γ} {h:γ→Option β} (h1:zCa e rs=some [.int i,.int j,.int c]) (p:∀l,K (l.map eI) e=(k l).bind h):zKb rs e K=((zHJ i j c).bind k).bind h:=by
 unfold zKb;rw [h1]
 show ((zHJ i j c).bind fun l=>K (l.map eI) e)=_
 cases zHJ i j c with
 |none=>rfl
 |some l=>exact p l
def zMb (rs:List Res) (e:Sl) (K:List PyData→Sl→Option β):Option β:=match rs with
 |[.dat (.list ds)]=>K (zEP 0 ds) e
 |_=>none
theorem c_bz (k:bnd (ms env) (fun rs e=>zMb rs e K)=R):bnd (zJq ms env) K=R:=by
 rw [←k];unfold zJq bnd zMb
 cases ms env with
 |none=>rfl
 |some p=>
  cases p with
  |mk rs e=>
   rcases rs with _|⟨r1,_|⟨r2,rs⟩⟩
   ·rfl
   ·cases r1 with
    |dat d=>cases d<;>rfl
    |_=>rfl
   ·cases r1 with
    |dat d=>cases d<;>rfl
    |_=>rfl
theorem c_by {α:Type} {rs:List Res} {ec:α→PyData} {l:List α} (h:rs=[.dat (.list (l.map ec))]) (k:K ((zGG 0 l).map (eT2 eI ec)) e=R):zMb rs e K=R:=by
 subst h;show K (zEP 0 (l.map ec)) e=R
 rw [zIm];exact k
def zipK (rs:List Res) (e:Sl) (K:List PyData→Sl→Option β):Option β:=match rs with
 |[.dat (.list xs),.dat (.list ys)]=>K (zipD xs ys) e
 |_=>none
theorem c_aO (k:bnd (ms env) (fun rs e=>zipK rs e K)=R):bnd (mZip ms env) K=R:=by
 rw [←k];unfold mZip bnd zipK
 cases ms env with
 |none=>rfl
 |some p=>
  cases p with
  |mk rs e=>
   rcases rs with _|⟨r1,_|⟨r2,_|⟨r3,rs⟩⟩⟩
   ·rfl
   ·cases r1<;>first|rfl|(rename_i d;cases d<;>rfl)
   ·cases r1 with
    |dat d=>
     cases d with
     |list xs=>
      cases r2 with
      |dat d=>cases d<;>rfl
      |_=>rfl
     |_=>rfl
    |_=>rfl
   ·cases r1 with
    |dat d=>
     cases d with
     |list xs=>
      cases r2 with
      |dat d=>cases d<;>rfl
      |_=>rfl
     |_=>rfl
    |_=>rfl
theorem c_aN {α α':Type} {rs:List Res} {ec:α→PyData} {ed:α'→PyData} {l:List α} {l':List α'} (h:rs=[.dat (.list (l.map ec)),.dat (.list (l'.map ed))]) (k:K ((l.zip l').map (eT2 ec ed)) e=R):zipK rs e K=R:=by
 subst h;show K (zipD (l.map ec) (l'.map ed)) e=R
 rw [zHv];exact k
def revK (rs:List Res) (e:Sl) (K:List PyData→Sl→Option β):Option β:=match rs with
 |[.dat (.list xs)]=>K xs.reverse e
 |_=>none
theorem c_bj (k:bnd (ms env) (fun rs e=>revK rs e K)=R):bnd (mRev ms env) K=R:=by
 rw [←k];unfold mRev bnd revK
 cases ms env with
 |none=>rfl
 |some p=>
  cases p with
  |mk rs e=>
   rcases rs with _|⟨r1,_|⟨r2,rs⟩⟩
   ·rfl
   ·cases r1 with
    |dat d=>cases d<;>rfl
    |_=>rfl
   ·cases r1 with
    |dat d=>cases d<;>rfl
    |_=>rfl
theorem c_bi {α:Type} {rs:List Res} {ec:α→PyData} {l:List α} (h:rs=[.dat (.list (l.map ec))]) (k:K (l.reverse.map ec) e=R):revK rs e K=R:=by
 subst h;show K (l.map ec).reverse e=R
 rw [←List.map_reverse];exact k
end
end Cm
namespace Cm
open PySem L2
section
variable {α β γ ρ σ τ:Type}
def forP (body:α→σ→Option σ):List α→σ→Option σ
 |[],s=>some s
 |x::xs,s=>(body x s).bind (forP body xs)
inductive Fw (ρ σ:Type) where
 |nx (s:σ)
 |bk (s:σ)
 |rt (r:ρ)
def Fw.on (w:Fw ρ σ) (f:ρ→β) (g:σ→β):β:=match w with
 |.rt r=>f r
 |.nx s=>g s
 |.bk s=>g s
def forR (body:α→σ→Option (Fw ρ σ)):List α→σ→Option (Fw ρ σ)
 |[],s=>some (.nx s)
 |x::xs,s=>(body x s).bind fun w=>match w with
  |.nx s=>forR body xs s
  |.bk s=>some (.nx s)
  |.rt r=>some (.rt r)
def outN (E:σ→Sl):σ→Fl×Sl:=fun s=>(.nx,E s)
def outB (oR:ρ→Res) (eR:ρ→Sl) (E:σ→Sl):Fw ρ σ→Fl×Sl
 |.nx s=>(.nx,E s)
 |.bk s=>(.bk,E s)
 |.rt r=>(.rt (oR r),eR r)
def outL (oR:ρ→Res) (eR:ρ→Sl) (E:σ→Sl):Fw ρ σ→Fl×Sl
 |.nx s=>(.nx,E s)
 |.bk s=>(.nx,E s)
 |.rt r=>(.rt (oR r),eR r)
variable {g:MG} {b:MS} {ec:α→PyData} {E:σ→Sl} {oR:ρ→Res} {eR:ρ→Sl}
theorem zFF {body:α→σ→Option σ} (hb:∀x s,(g (ec x) (E s)).bind b=(body x s).map (outN E)):∀(xs:List α) (s:σ),forL g b (xs.map ec) (E s)=(forP body xs s).map (outN E)
 |[],s=>rfl
 |x::xs,s=>by
  show ((g (ec x) (E s)).bind fun e1=>(b e1).bind _)=_
  rw [←Option.bind_assoc,hb x s];show _=Option.map _ ((body x s).bind (forP body xs))
  cases body x s with
  |none=>rfl
  |some s'=>exact zFF hb xs s'
theorem zF6 {body:α→σ→Option (Fw ρ σ)} (hb:∀x s,(g (ec x) (E s)).bind b=(body x s).map (outB oR eR E)):∀(xs:List α) (s:σ),forL g b (xs.map ec) (E s)=(forR body xs s).map (outL oR eR E)
 |[],s=>rfl
 |x::xs,s=>by
  show ((g (ec x) (E s)).bind fun e1=>(b e1).bind _)=_
  rw [←Option.bind_assoc,hb x s];show _=Option.map _ ((body x s).bind _)
  cases body x s with
  |none=>rfl
  |some w=>
   cases w with
   |nx s'=>exact zF6 hb xs s'
   |bk s'=>rfl
   |rt r=>rfl
variable {K:Fl→Sl→Option β} {mi:MI} {env e e2:Sl} {R:Option β}
theorem c_U (k:bnd (mi env) (fun ds e=>bnd (forL g b ds e) K)=R):bnd (mFor mi g b env) K=R:=by
 rw [←k];unfold mFor bnd
 cases mi env<;>rfl
theorem c_ap {L:Option (Fl×Sl)} {W:Option σ} {k:σ→Option γ} {h:γ→Option β} (q:L=W.map (outN E)) (p:∀s,K .nx (E s)=(k s).bind h):bnd L K=(W.bind k).bind h:=c_V q p
theorem c_ay {L:Option (Fl×Sl)} {W:Option (Fw ρ σ)} {f:ρ→Option γ} {k:σ→Option γ} {h:γ→Option β} (q:L=W.map (outL oR eR E)) (p1:∀r,K (.rt (oR r)) (eR r)=(f r).bind h) (p2:∀s,K .nx (E s)=(k s).bind h):bnd L K=(W.bind fun w=>w.on f k).bind h:=by
 subst q;cases W with
 |none=>rfl
 |some w=>
  cases w with
  |nx s=>exact p2 s
  |bk s=>exact p2 s
  |rt r=>exact p1 r
theorem c_W {body:Option τ} {out:τ→Fl×Sl} {d:PyData} (k:(g d e).bind (fun e=>bnd (b e) fun f e=>some (f,e))=body.bind fun z=>some (out z)):(g d e).bind b=body.map out:=by
 have h1:∀x:Option (Fl×Sl),bnd x (fun f e=>some (f,e))=x:=fun x=>by cases x<;>rfl
 simp only [h1] at k
 rw [k];cases body<;>rfl
end
section
variable {α β γ σ τ:Type}
def mapO (f:α→Option τ):List α→Option (List τ)
 |[]=>some []
 |x::xs=>(f x).bind fun y=>(mapO f xs).map (y::·)
def fmO (f:α→Option (Option τ)):List α→Option (List τ)
 |[]=>some []
 |x::xs=>(f x).bind fun y=>(fmO f xs).map (y.toList++·)
def mapS (f:α→σ→Option (τ×σ)):List α→σ→Option (List τ×σ)
 |[],s=>some ([],s)
 |x::xs,s=>(f x s).bind fun y=>(mapS f xs y.2).map fun z=>(y.1::z.1,z.2)
def fmS (f:α→σ→Option (Option τ×σ)):List α→σ→Option (List τ×σ)
 |[],s=>some ([],s)
 |x::xs,s=>(f x s).bind fun y=>(fmS f xs y.2).map fun z=>(y.1.toList++z.1,z.2)
def zIN (vs:List Nat) (r:Res) (e:Sl):Option (Option PyData×Sl):=match r with
 |.dat x=>some (some x,zAA e vs)
 |_=>none
def zA7 (g:MG) (t:MT) (me:ME) (vs:List Nat) (d:PyData) (e:Sl):Option (Option PyData×Sl):=
 (g d e).bind fun e1=>bnd (t e1) fun c e2=>bnd (if c=true then bnd (me e2) (fun r e=>bnd (frz (r,e)) fun r e=>zIN vs r e) else some (none,zAA e2 vs)) fun x e=>some (x,e)
variable {g:MG} {t:MT} {me:ME} {vs:List Nat} {ec:α→PyData} {ed:τ→PyData} {E:σ→Sl}
theorem zIg (d:PyData) (ds:List PyData) (e:Sl) (acc:List PyData):lcL g t me vs (d::ds) e acc=(zA7 g t me vs d e).bind fun q=>lcL g t me vs ds q.2 (acc++q.1.toList):=by
 show ((g d e).bind fun e1=>(t e1).bind fun p=>if p.1=true then (mFrz me p.2).bind _ else _)=_
 unfold zA7 bnd mFrz;cases g d e with
 |none=>rfl
 |some e1=>
  simp only [oA]
  cases t e1 with
  |none=>rfl
  |some p=>
   cases p with
   |mk c e2=>
    cases c with
    |false=>simp
    |true=>
     simp only [oA,if_true]
     cases me e2 with
     |none=>rfl
     |some q=>
      simp only [oA]
      cases frz (q.1,q.2) with
      |none=>rfl
      |some w=>
       cases w with
       |mk r e=>cases r<;>rfl
theorem zLa {f:α→σ→Option (Option τ×σ)} (hb:∀x s,zA7 g t me vs (ec x) (E s)=(f x s).map fun z=>(z.1.map ed,E z.2)):∀(xs:List α) (s:σ) (acc:List PyData),lcL g t me vs (xs.map ec) (E s) acc=(fmS f xs s).map fun z=>(acc++z.1.map ed,E z.2)
 |[],s,acc=>by
  show some (acc,E s)=some (acc++[],E s)
  rw [oZ]
 |x::xs,s,acc=>by
  rw [List.map_cons,zIg,hb];show _=Option.map _ ((f x s).bind _)
  cases f x s with
  |none=>rfl
  |some y=>
   simp only [OA,oA]
   rw [zLa hb xs y.2];cases fmS f xs y.2 with
   |none=>rfl
   |some z=>
    cases y with
    |mk y1 y2=>cases y1<;>simp
theorem zJE {f:α→σ→Option (τ×σ)}:∀(xs:List α) (s:σ),fmS (fun x s=>(f x s).map fun z=>(some z.1,z.2)) xs s=mapS f xs s
 |[],s=>rfl
 |x::xs,s=>by
  show ((f x s).map _).bind _=(f x s).bind _
  cases f x s with
  |none=>rfl
  |some y=>
   simp only [OA,oA]
   rw [zJE xs y.2];rfl
theorem zJt {f:α→σ→Option (τ×σ)} (hb:∀x s,zA7 g t me vs (ec x) (E s)=(f x s).map fun z=>(some (ed z.1),E z.2)) (xs:List α) (s:σ):lcL g t me vs (xs.map ec) (E s) []=(mapS f xs s).map fun z=>(z.1.map ed,E z.2):=by
 rw [zLa (f:=fun x s=>(f x s).map fun z=>(some z.1,z.2)) (ed:=ed),zJE]
 ·simp
 ·intro x s
  rw [hb,Option.map_map];rfl
variable {e:Sl}
theorem zJu {f:α→Option (Option τ)} (hb:∀x,zA7 g t me vs (ec x) e=(f x).map fun z=>(z.map ed,e)):∀(xs:List α) (acc:List PyData),lcL g t me vs (xs.map ec) e acc=(fmO f xs).map fun z=>(acc++z.map ed,e)
 |[],acc=>by
  show some (acc,e)=some (acc++[],e)
  rw [oZ]
 |x::xs,acc=>by
  rw [List.map_cons,zIg,hb];show _=Option.map _ ((f x).bind _)
  cases f x with
  |none=>rfl
  |some y=>
   simp only [OA,oA]
   rw [zJu hb xs];cases fmO f xs with
   |none=>rfl
   |some z=>cases y<;>simp
theorem zJF {f:α→Option τ}:∀(xs:List α),fmO (fun x=>(f x).map some) xs=mapO f xs
 |[]=>rfl
 |x::xs=>by
  show ((f x).map _).bind _=(f x).bind _
  cases f x with
  |none=>rfl
  |some y=>
   simp only [OA,oA]
   rw [zJF xs];rfl
theorem zDf {f:α→Option τ} (hb:∀x,zA7 g t me vs (ec x) e=(f x).map fun z=>(some (ed z),e)) (xs:List α):lcL g t me vs (xs.map ec) e []=(mapO f xs).map fun z=>(z.map ed,e):=by
 rw [zJu (f:=fun x=>(f x).map some) (ed:=ed),zJF]
 ·simp
 ·intro x
  rw [hb,Option.map_map];rfl
theorem zIl {p:α→Bool} {f:α→τ}:∀(xs:List α),fmO (fun x=>some (if p x=true then some (f x) else none)) xs=some ((xs.filter p).map f)
 |[]=>rfl
 |x::xs=>by
  show (fmO _ xs).map _=_
  rw [zIl xs];cases h:p x<;>simp [h]
theorem zLU {p:α→Bool} {f:α→τ} (hb:∀x,zA7 g t me vs (ec x) e=some (if p x=true then some (ed (f x)) else none,e)) (xs:List α):lcL g t me vs (xs.map ec) e []=some (((xs.filter p).map f).map ed,e):=by
 rw [zJu (f:=fun x=>some (if p x=true then some (f x) else none)) (ed:=ed),zIl]
 ·simp
 ·intro x
  rw [hb];cases p x<;>rfl
variable {K:Res→Sl→Option β} {mi:MI} {env e1:Sl} {R:Option β}
def lcK (g:MG) (t:MT) (me:ME) (vs:List Nat) (ds:List PyData) (e:Sl) (K:Res→Sl→Option β):Option β:=if ds.length≤100000 then bnd (lcL g t me vs ds (zAA e vs) []) fun acc e=>K (.new (.lst acc)) e else none
theorem c_T (k:bnd (mi env) (fun ds e=>lcK g t me vs ds e K)=R):bnd (mLc mi g t me vs env) K=R:=by
 rw [←k];unfold mLc bnd lcK
 cases mi env with
 |none=>rfl
 |some p=>
  simp only [oA]
  split
  ·unfold bnd
   cases lcL g t me vs p.1 (zAA p.2 vs) []<;>rfl
  ·rfl
theorem c_S {xs:List α} {k:Unit→Option γ} {h:γ→Option β} (hw:zAA e vs=e1) (p:bnd (lcL g t me vs (xs.map ec) e1 []) (fun acc e=>K (.new (.lst acc)) e)=(k ()).bind h):lcK g t me vs (xs.map ec) e K=((gd (xs.length≤100000)).bind k).bind h:=by
 subst hw;unfold lcK gd;rw [oJ];split
 ·exact p
 ·rfl
theorem c_ad {K:Option PyData→Sl→Option β} {d:PyData} (hw:zAA e vs=e1) (k:K (some d) e1=R):bnd (zIN vs (.dat d) e) K=R:=by
 subst hw;exact k
theorem c_bc {Y:Option (Option PyData×Sl)} {d:PyData} (k:(g d e).bind (fun e1=>bnd (t e1) fun c e2=>bnd (if c=true then bnd (me e2) (fun r e=>bnd (frz (r,e)) fun r e=>zIN vs r e) else some (none,zAA e2 vs)) fun x e=>some (x,e))=Y):zA7 g t me vs d e=Y:=k
theorem c_bb {x:Option (Res×Sl)} {K:Option PyData→Sl→Option β} (k:bnd x (fun r e=>bnd (frz (r,e)) fun r e=>bnd (zIN vs r e) K)=R):bnd (bnd x (fun r e=>bnd (frz (r,e)) fun r e=>zIN vs r e)) K=R:=by
 rw [←k];cases x with
 |none=>rfl
 |some p=>
  simp only [bnd,oA]
  cases frz (p.1,p.2)<;>rfl
theorem c_ac {a b:Option (τ×Sl)} {K:τ→Sl→Option β} (k:bnd a K=R):bnd (if true=true then a else b) K=R:=k
theorem c_ba {p:Bool} {d:PyData} {a b:Option (Option PyData×Sl)} (h1:a=some (some d,e)) (h2:b=some (none,e)):bnd (if p=true then a else b) (fun x e=>some (x,e))=some (if p=true then some d else none,e):=by
 subst h1 h2;cases p<;>rfl
variable {m:ME} {ml mh:MO}
def slK (g:PyData→Option Int→Option Int→Option Res) (r:Res) (lo hi:Option Int) (e:Sl) (K:Res→Sl→Option β):Option β:=(rdv e (stab r)).bind fun dx=>(g dx lo hi).bind fun r=>K r e
theorem c_sl {g:PyData→Option Int→Option Int→Option Res} (k:bnd (m env) (fun r e=>bnd (ml e) fun lo e=>bnd (mh e) fun hi e=>slK g r lo hi e K)=R):bnd (mSl g m ml mh env) K=R:=by
 rw [←k];unfold mSl bnd slK
 cases m env with
 |none=>rfl
 |some p=>
  simp only [oA]
  cases ml p.2 with
  |none=>rfl
  |some a=>
   simp only [oA]
   cases mh a.2 with
   |none=>rfl
   |some b=>
    simp only [oA]
    cases rdv b.2 (stab p.1) with
    |none=>rfl
    |some dx=>
     simp only [oA]
     cases g dx a.1 b.1<;>rfl
theorem c_aj {g:PyData→Option Int→Option Int→Option Res} {r:Res} {lo hi:Option Int} (dx:PyData) (h:rdv e (stab r)=some dx) (k:(g dx lo hi).bind (fun r=>K r e)=R):slK g r lo hi e K=R:=by
 unfold slK;rw [h];exact k
theorem c_aP {i:Nat} {ns:List Int} (h:env[i]?=some (.scr ns)) (k:bnd (ml env) (fun lo e=>bnd (mh e) fun hi e=>K (.new (.lst ((cutL ns lo hi).map eI))) e)=R):bnd (zFy i ml mh env) K=R:=by
 rw [←k];unfold zFy bnd
 rw [h];simp only
 cases ml env with
 |none=>rfl
 |some a=>
  simp only [oA]
  cases mh a.2 with
  |none=>rfl
  |some b=>
   simp only [OA,oA]
   rw [show cutD (ns.map .int) a.1 b.1=(cutL ns a.1 b.1).map eI by simp only [cutD,cutL,oJ,List.map_take,List.map_drop]]
section
variable {K:Option Int→Sl→Option β}
def partK (r:Res) (e:Sl) (K:Option Int→Sl→Option β):Option β:=match r with
 |.dat (.int i)=>K (some i) e
 |_=>none
theorem c_Q (k:bnd (m env) (fun r e=>partK r e K)=R):bnd (zEf m env) K=R:=by
 rw [←k];unfold zEf bnd
 cases m env with
 |none=>rfl
 |some p=>
  cases p with
  |mk r e=>
   cases r with
   |dat d=>cases d<;>rfl
   |_=>rfl
theorem c_P {i:Int} (k:K (some i) e=R):partK (.dat (.int i)) e K=R:=k
theorem c_am (k:K none env=R):bnd (zCS env) K=R:=k
end
variable {ms:MA}
def zKh (is:List Nat) (rs:List Res) (e:Sl) (K:Fl→Sl→Option β):Option β:=(zEq is rs e).bind fun e=>K .nx e
theorem c_bo {is:List Nat} {K:Fl→Sl→Option β} (k:bnd (ms env) (fun rs e=>zKh is rs e K)=R):bnd (zJp is ms env) K=R:=by
 rw [←k];unfold zJp bnd zKh
 cases ms env with
 |none=>rfl
 |some p=>
  simp only [oA]
  cases zEq is p.1 p.2<;>rfl
theorem c_bn {is:List Nat} {rs:List Res} {K:Fl→Sl→Option β} (e2:Sl) (h:zEq is rs e=some e2) (k:K .nx e2=R):zKh is rs e K=R:=by
 unfold zKh;rw [h];exact k
theorem c_aZ {K:List Res→Sl→Option β} (k:bnd (m env) (fun r e=>bnd (frzS (r,e)) fun r e=>bnd (ms e) fun rs e'=>K (r::rs) e')=R):bnd (zF4 m ms env) K=R:=by
 rw [←k];unfold zF4 zM1 bnd
 cases m env with
 |none=>rfl
 |some p=>
  simp only [oA]
  cases frzS p with
  |none=>rfl
  |some q=>
   simp only [oA]
   cases ms q.2<;>rfl
theorem c_aX {d:PyData} (k:K (.dat d) e=R):bnd (frzS (.dat d,e)) K=R:=k
end
theorem c_D {τ:Type} {np n:Nat} {mb:MS} {ins:Sl} {Y:Option τ} {oR:τ→Res} {eR:τ→Sl} {out:τ→Res×Sl} (env:Sl) (h1:ins.length=np) (h2:ins++List.replicate (n - np) .no=env)
  (k:bnd (mb env) (fun f e=>some (f,e))=Y.bind fun z=>some (.rt (oR z),eR z)) (h3:∀z,finR (.rt (oR z),eR z)=some (out z).1) (h4:∀z,ioKept ins (eR z)=true) (h5:∀z,(eR z).take np=(out z).2):fmOf np n mb ins=Y.map out:=by
 have hk:mb env=Y.map fun z=>(Fl.rt (oR z),eR z):=c_aS k
 unfold fmOf;rw [if_pos h1,h2,hk];cases Y with
 |none=>rfl
 |some z=>
  simp only [OA,oA,h3,h4,if_true,h5]
section
variable {β γ τ:Type} {e e2:Sl} {i:Nat} {k:τ→Option γ} {h:γ→Option β}
theorem c_al {K:Fl→Sl→Option β} (enc:τ→PyData) (v:τ) (E:τ→Sl) (hs:∀x,e.set i (.val (enc x))=E x) (p:∀x,K .nx (E x)=(k x).bind h):setK i (.dat (enc v)) e K=((some v).bind k).bind h:=by
 show K .nx (e.set i (.val (enc v)))=_
 rw [hs];exact p v
theorem c_au {τ:Type} {k:List τ→Option γ} {K:Fl→Sl→Option β} (enc:τ→PyData) (v:List τ) (E:List τ→Sl) (hs:∀x,e.set i (.own (.lst (x.map enc)))=E x) (p:∀x,K .nx (E x)=(k x).bind h):setK i (.new (.lst (v.map enc))) e K=((some v).bind k).bind h:=by
 show K .nx (e.set i (.own (.lst (v.map enc))))=_
 rw [hs];exact p v
theorem c_bI {K:Fl→Sl→Option β} {k:Int→Option γ} {x y:Int} {f:Int→Int→Int} (E:Int→Sl) (hs:∀z,e.set i (.val (.int z))=E z) (p:∀z,K .nx (E z)=(k z).bind h):augK i x f (.dat (.int y)) e K=((some (f x y)).bind k).bind h:=by
 show K .nx (e.set i (.val (.int (f x y))))=_
 rw [hs];exact p _
theorem c_aw {K:Res→Sl→Option β} {f:List PyData→List PyData→Option (List PyData×PyData)} {s:Slot} {rs:List Res} {Y:Option τ} {o:τ→List PyData×PyData} (es ds:List PyData) (E:τ→Sl) (h1:dats rs=some es) (h2:lstAt e i=some (s,ds)) (q:f ds es=Y.map o) (hE:∀z,e.set i (s.put (.lst (o z).1))=E z) (p:∀z,K (.dat (o z).2) (E z)=(k z).bind h):mutK i f rs e K=(Y.bind k).bind h:=by
 unfold mutK;rw [h1,h2]
 simp only [oA,q]
 cases Y with
 |none=>rfl
 |some z=>
  show K (.dat (o z).2) (e.set i (s.put (.lst (o z).1)))=_
  rw [hE];exact p z
theorem c_aJ {α:Type} {K:Sl→Option β} {k:List α→Option γ} (ec:α→PyData) (l:List α) (x:α) {z:Int} {s:Slot} (E:List α→Sl) (h1:lstAt e i=some (s,l.map ec)) (hE:∀l',e.set i (s.put (.lst (l'.map ec)))=E l') (p:∀l',K (E l')=(k l').bind h):subK i (ec x) (.dat (.int z)) e K=((pSet l z x).bind k).bind h:=
 c_bw h1 fun l'=>by rw [hE];exact p l'
end
def maxI (i j:Int):Int:=if j>i then j else i
def absI (i:Int):Int:=if i<0 then -i else i
theorem zKW {a b:Int}:gEq false (.int a) (.int b)=some (.dat (.bool (decide (a=b)))):=by rw [zMx,Bool.false_xor]
theorem zIS {a b:Int}:gEq true (.int a) (.int b)=some (.dat (.bool (!decide (a=b)))):=by rw [zMx,Bool.true_xor]
theorem zGL {a b:Str}:gEq false (.str a) (.str b)=some (.dat (.bool (decide (a=b)))):=by rw [zMw,Bool.false_xor]
theorem zMv {a b:Str}:gEq true (.str a) (.str b)=some (.dat (.bool (!decide (a=b)))):=by rw [zMw,Bool.true_xor]
theorem zMz {a b:Bool}:gEq false (.bool a) (.bool b)=some (.dat (.bool (decide (a=b)))):=by rw [zMA,Bool.false_xor]
theorem zKX {a b:Bool}:gEq true (.bool a) (.bool b)=some (.dat (.bool (!decide (a=b)))):=by rw [zMA,Bool.true_xor]
theorem zLr {a b:List Int}:gEq false (.list (a.map .int)) (.list (b.map .int))=some (.dat (.bool (decide (a=b)))):=by rw [zKV,Bool.false_xor]
theorem zIR {a b:List Int}:gEq true (.list (a.map .int)) (.list (b.map .int))=some (.dat (.bool (!decide (a=b)))):=by rw [zKV,Bool.true_xor]
theorem c_aa {α τ:Type} {g:MG} {t:MT} {me:ME} {vs:List Nat} {e:Sl} {d:PyData} {Y:Option τ} {out:τ→Option PyData×Sl} (k:(g d e).bind (fun e1=>bnd (t e1) fun c e2=>bnd (if c=true then bnd (me e2) (fun r e=>bnd (frz (r,e)) fun r e=>zIN vs r e) else some (none,zAA e2 vs)) fun x e=>some (x,e))=Y.bind fun z=>some (out z)):zA7 g t me vs d e=Y.map out:=by
 have h:zA7 g t me vs d e=Y.bind fun z=>some (out z):=k
 rw [h];cases Y<;>rfl
theorem c_aL {β:Type} {K:Res→Sl→Option β} {R:Option β} {g':PyData→PyData→Option Res} {mc:ME} {e:Sl} {r2:Res} {dy dz:PyData} {b c:Bool} (h3:mc e=some (.dat dz,e)) (h4:rdv e (stab r2)=some dy) (h6:g' dy dz=some (.dat (.bool c))) (k:K (.dat (.bool (b&&c))) e=R):bnd (if b=true then (mc e).bind (fun t=>(rdv t.2 (stab r2)).bind fun dy=>(rdv t.2 (stab t.1)).bind fun dz=>(g' dy dz).map fun r=>(r,t.2)) else some (.dat (.bool false),e)) K=R:=by
 have hz:rdv e (stab (.dat dz))=some dz:=rfl
 cases b
 ·exact k
 ·simp only [if_true,h3,oA,h4,hz,h6,OA]
  exact k
theorem zKs {α:Type} {g:MG} {t:MT} {me:ME} {vs:List Nat} {ec:α→PyData} {ed:α→PyData} {e:Sl} {p:α→Bool} (hb:∀x,zA7 g t me vs (ec x) e=some (if p x=true then some (ed x) else none,e)) (xs:List α):lcL g t me vs (xs.map ec) e []=some ((xs.filter p).map ed,e):=by
 have:=zLU (f:=id) (ed:=ed) hb xs
 rw [this,List.map_id]
section
variable {β γ:Type} {env e:Sl} {R:Option β} {m:ME} {ms:MA} {K:Res→Sl→Option β}
end
end Cm
namespace Cm
open PySem L2
section
variable {α β γ ρ σ τ:Type}
def Wp (x:Option α) (Q:α→Prop):Prop:=∃a,x=some a∧Q a
theorem zAS {a:α} {Q:α→Prop} (q:Q a):Wp (some a) Q:=⟨a,rfl,q⟩
theorem zHz {x:Option α} {Q Q':α→Prop} (h:Wp x Q) (k:∀a,Q a→Q' a):Wp x Q':=let ⟨a,e,q⟩:=h;⟨a,e,k a q⟩
theorem zAw {x:Option α} {f:α→Option β} {R:α→Prop} {Q:β→Prop} (h:Wp x R) (k:∀a,R a→Wp (f a) Q):Wp (x.bind f) Q:=by
 obtain ⟨a,rfl,q⟩:=h
 exact k a q
theorem zEz {v:α} {f:α→Option β} {Q:β→Prop} (k:Wp (f v) Q):Wp ((some v).bind f) Q:=k
theorem zAx {x:Option α} {v:α} {f:α→Option β} {Q:β→Prop} (h:x=some v) (k:Wp (f v) Q):Wp (x.bind f) Q:=by
 subst h;exact k
theorem zKZ {p:Prop} [Decidable p] {a b:Option α} {Q:α→Prop} (h1:p→Wp a Q) (h2:¬p→Wp b Q):Wp (if decide p=true then a else b) Q:=by
 by_cases h:p
 ·simpa [h] using h1 h
 ·simpa [h] using h2 h
theorem wp_gd {p:Prop} [Decidable p] {Q:Unit→Prop} (h:p) (q:Q ()):Wp (gd p) Q:=⟨(),if_pos h,q⟩
theorem zFE {p:Prop} [Decidable p] (h:p):gd p=some ():=if_pos h
theorem zC6 {i j:Int} (h:(-(2 ^ 64)<i∧i<2 ^ 64)∨(-(2 ^ 64)<j∧j<2 ^ 64)):pMul i j=some (i*j):=if_pos h
theorem zDH {i j:Int} (h:0<j∧j<1073741824):pDiv i j=some (i / j):=if_pos h
theorem zD9 {i j:Int} (h:0<j):pMod i j=some (i % j):=if_pos h
theorem zMk (i:Int):0≤absI i:=by unfold absI;split<;>omega
theorem zCT {l:List α} {i:Int} {z:α} (h0:0≤i) (h:l[i.toNat]?=some z):pIx l i=some z:=by
 have hl:=(oE.mp h).1
 unfold pIx atI ixN;rw [if_pos h0,if_pos (by omega)]
 exact h
theorem zLX {l:List α} {i:Int} (h0:0≤i) (h1:i<(l.length:Int)):Wp (pIx l i) fun z=>l[i.toNat]?=some z∧z∈l:=by
 have hl:i.toNat<l.length:=by omega
 have h:l[i.toNat]?=some l[i.toNat]:=oF hl
 exact ⟨_,zCT h0 h,h,List.getElem_mem hl⟩
theorem zFC {l:List α} {z:α}:pIx (l++[z]) (-1)=some z:=by
 unfold pIx atI ixN;rw [if_neg (by omega),if_pos (by simp;omega),oI]
 simp
 have:(-1+((l.length:Int)+1)).toNat=l.length:=by omega
 rw [this]
 simp
theorem zLW {l:List α} {z:α}:pIx (z::l) 0=some z:=zCT (by omega) rfl
theorem zJv {l:List α} {i:Int} (h0:0≤i) (h1:i<(l.length:Int)):Wp (pIx l i) fun z=>z∈l:=zHz (zLX h0 h1) fun _ h=>h.2
theorem zI8 {l:List α} {i:Int} {x:α} (h0:0≤i) (h1:i<(l.length:Int)):pSet l i x=some (l.set i.toNat x):=by
 unfold pSet ixN;rw [if_pos h0,if_pos h1];rfl
theorem zLm {l:List α} {x:α} (h:l.length<100000):pApp l x=some (l++[x]):=if_pos h
theorem zJO {l l':List α} (h:l.length+l'.length≤100000):pCat l l'=some (l++l'):=if_pos h
theorem zMQ {l:List α} {k:Int} (h: -(2 ^ 63)≤k∧k<2 ^ 63∧l.length*k.toNat≤100000):pRep l k=some (repL l k):=if_pos h
theorem zKg {x:α} {k:Int}:repL [x] k=List.replicate k.toNat x:=by
 unfold repL
 induction k.toNat with
 |zero=>rfl
 |succ n ih=>rw [List.replicate_succ,List.flatten_cons,ih,List.replicate_succ];rfl
theorem zIb {n:Int} (h: -(2 ^ 62)≤n∧n<2 ^ 62):pRng n=some (zD5 n):=if_pos h
theorem zLE {i j:Int} (h:(-(2 ^ 62)≤i∧i<2 ^ 62)∧ -(2 ^ 62)≤j∧j<2 ^ 62):zHK i j=some (zDC i j):=if_pos h
theorem zBD (n:Int):(zD5 n).length=n.toNat:=by simp [zD5]
theorem zIA {n:Int} {j:Nat} {x:Int} (h:(zD5 n)[j]?=some x):x=(j:Int)∧(j:Int)<n:=by
 unfold zD5 at h;rw [oO] at h
 obtain ⟨k,hk,rfl⟩:=oD.mp h
 obtain ⟨h1,h2⟩:=oE.mp hk
 rw [List.getElem_range] at h2
 rw [List.length_range] at h1
 subst h2;exact ⟨rfl,by omega⟩
theorem zFZ {n x:Int} (h:x∈zD5 n):0≤x∧x<n:=by
 unfold zD5 at h;obtain ⟨k,hk,rfl⟩:=oW.mp h
 have:=List.mem_range.mp hk
 omega
theorem zFY (i j:Int):(zDC i j).length=(j - i).toNat:=by simp [zDC]
theorem zIz {i j:Int} {k:Nat} {x:Int} (h:(zDC i j)[k]?=some x):x=i+(k:Int)∧x<j:=by
 unfold zDC at h;rw [oO] at h
 obtain ⟨q,hk,rfl⟩:=oD.mp h
 obtain ⟨h1,h2⟩:=oE.mp hk
 rw [List.getElem_range] at h2
 rw [List.length_range] at h1
 subst h2;exact ⟨rfl,by omega⟩
theorem zHi:∀{l:List α} {n j:Nat} {x:Int×α},(zGG n l)[j]?=some x→x.1=((n+j:Nat):Int)∧l[j]?=some x.2
 |[],_,_,_,h=>by simp [zGG] at h
 |a::l,n,0,x,h=>by
  simp [zGG] at h
  subst h;exact ⟨by simp,rfl⟩
 |a::l,n,j+1,x,h=>by
  have h2:(zGG (n+1) l)[j]?=some x:=by simpa [zGG] using h
  obtain ⟨h3,h4⟩:=zHi h2
  exact ⟨by rw [h3];omega,by simpa using h4⟩
theorem zK0 {body:α→σ→Option σ} (I:Nat→σ→Prop):∀{xs:List α} {s:σ} {n:Nat},I n s→(∀(j:Nat) x s,xs[j]?=some x→I (n+j) s→Wp (body x s) (I (n+j+1)))→Wp (forP body xs s) (I (n+xs.length))
 |[],s,n,h0,_=>⟨s,rfl,h0⟩
 |x::xs,s,n,h0,hb=>by
  refine zAw (hb 0 x s rfl h0) fun s' h'=>?_
  have:=zK0 (body:=body) I (xs:=xs) (s:=s') (n:=n+1) h' fun j y s hy hi=>by
   have h1:=hb (j+1) y s (by simpa using hy) (by rw [show n+(j+1)=n+1+j by omega];exact hi)
   rw [show n+(j+1)+1=n+1+j+1 by omega] at h1
   exact h1
  rw [OC,show n+(xs.length+1)=n+1+xs.length by omega]
  exact this
theorem zHA {body:α→σ→Option σ} {xs:List α} {s:σ} (I:Nat→σ→Prop) (h0:I 0 s) (hb:∀(j:Nat) x s,xs[j]?=some x→I j s→Wp (body x s) (I (j+1))):Wp (forP body xs s) (I xs.length):=by
 have:=zK0 (body:=body) I (xs:=xs) (s:=s) (n:=0) h0 fun j x s hx hi=>by
  rw [Nat.zero_add] at hi ⊢
  exact hb j x s hx hi
 rwa [Nat.zero_add] at this
theorem zIU {body:α→σ→Option (Fw ρ σ)} (I:Nat→σ→Prop):∀{xs:List α} {s:σ} {n:Nat},I n s→(∀(j:Nat) x s,xs[j]?=some x→I (n+j) s→Wp (body x s) fun w=>∃s',w=.nx s'∧I (n+j+1) s')→Wp (forR body xs s) fun w=>∃s',w=.nx s'∧I (n+xs.length) s'
 |[],s,n,h0,_=>⟨.nx s,rfl,s,rfl,h0⟩
 |x::xs,s,n,h0,hb=>by
  refine zAw (hb 0 x s rfl h0) fun w hw=>?_;obtain ⟨s',rfl,h'⟩:=hw
  have:=zIU (body:=body) I (xs:=xs) (s:=s') (n:=n+1) h' fun j y s hy hi=>by
   have h1:=hb (j+1) y s (by simpa using hy) (by rw [show n+(j+1)=n+1+j by omega];exact hi)
   rw [show n+(j+1)+1=n+1+j+1 by omega] at h1
   exact h1
  rw [OC,show n+(xs.length+1)=n+1+xs.length by omega]
  exact this
theorem zH5 {body:α→σ→Option (Fw ρ σ)} {xs:List α} {s:σ} (I:Nat→σ→Prop) (h0:I 0 s) (hb:∀(j:Nat) x s,xs[j]?=some x→I j s→Wp (body x s) fun w=>∃s',w=.nx s'∧I (j+1) s'):Wp (forR body xs s) fun w=>∃s',w=.nx s'∧I xs.length s':=by
 have:=zIU (body:=body) I (xs:=xs) (s:=s) (n:=0) h0 fun j x s hx hi=>by
  rw [Nat.zero_add] at hi ⊢
  exact hb j x s hx hi
 rwa [Nat.zero_add] at this
theorem zDQ {f:α→Option τ} {g:α→τ}:∀{xs:List α},(∀x∈xs,f x=some (g x))→mapO f xs=some (xs.map g)
 |[],_=>rfl
 |x::xs,h=>by
  show (f x).bind _=_
  rw [h x OD,oA,zDQ fun y hy=>h y (oY _ hy)];rfl
theorem zJm {f:α→Option τ} (Q:τ→Prop):∀{xs:List α},(∀x∈xs,Wp (f x) Q)→Wp (mapO f xs) fun ys=>ys.length=xs.length∧∀y∈ys,Q y
 |[],_=>⟨[],rfl,rfl,by simp⟩
 |x::xs,h=>by
  obtain ⟨y,e,q⟩:=h x OD
  obtain ⟨ys,e2,q1,q2⟩:=zJm Q fun z hz=>h z (oY _ hz)
  refine ⟨y::ys,?_,by simp [q1],?_⟩
  ·show (f x).bind _=_
   rw [e,oA,e2];rfl
  ·intro z hz
   rcases OB.mp hz with rfl|hz
   ·exact q
   ·exact q2 z hz
end
def Bok (b:List Int) (n:Int):Prop:=∃a v c:Int,b=[a,v,c]∧0≤a∧0≤c∧c≤n
theorem Bok.mono {b:List Int} {n k:Int} (h:Bok b n) (e:n≤k):Bok b k:=let ⟨a,v,c,h1,h2,h3,h4⟩:=h;⟨a,v,c,h1,h2,h3,Int.le_trans h4 e⟩
theorem zDn {l:List Bool} (h:∀b∈l,b=true):l.all id=true:=by
 rw [List.all_eq_true];exact h
section
variable {α:Type}
theorem zHY (l:List α) (k:Nat):cutL l none (some (k:Int))=l.take k:=by
 unfold cutL;rw [HT.sIx_nat,HT.sIx_none];simp only [List.drop_zero,Nat.sub_zero]
 by_cases h:k≤l.length
 ·rw [Nat.min_eq_left h]
 ·rw [Nat.min_eq_right (by omega),List.take_of_length_le (Nat.le_refl _),List.take_of_length_le (by omega)]
theorem zHo (l:List α) (k:Nat):cutL l (some (k:Int)) none=l.drop k:=by
 unfold cutL;rw [HT.sIx_nat,HT.sIx_none];rw [List.take_of_length_le (by rw [List.length_drop];omega)]
 by_cases h:k≤l.length
 ·rw [Nat.min_eq_left h]
 ·rw [Nat.min_eq_right (by omega),List.drop_of_length_le (Nat.le_refl _),List.drop_of_length_le (by omega)]
theorem zIu (l:List α) (lo hi:Option Int):(cutL l lo hi).length≤l.length:=by
 unfold cutL;rw [List.length_take,List.length_drop];omega
end
end Cm
namespace Cm
open PySem L2
section
variable {X:Cx} {K:oB}
def gInS (neg:Bool):PyData→PyData→Option Res
 |.str x,.str y=>match x.cps.toList with
  |[c]=>some (.dat (.bool (neg ^^ decide (c∈y.cps.toList))))
  |_=>none
 |_,_=>none
theorem zKk {x:Str} {c:Nat} (h:x.cps.toList=[c]):x=⟨#[c]⟩:=by
 cases x with
 |mk cps=>
  congr 1
  apply Array.ext'
  exact h
theorem zMZ:OpD K rInS (gInS false):=by
 intro Hk H x y dx dy res Q e vx vy h q
 unfold gInS at h
 split at h
 ·split at h
  ·rename_i c hc
   cases h
   rw [zKk hc] at vx
   rw [Bool.false_xor] at q
   exact ⟨c,_,vx.str,vy.str,q _ _ (.inl ⟨rfl,.bl _⟩)⟩
  ·cases h
 ·cases h
def zCD:PyData→List PyData→Option Res
 |.str a,[.str b]=>if (b.length==0)=false∧a.length≤100000 then some (.dat (.tuple [.str (Txt.partition a b).1,.str (Txt.partition a b).2.1,.str (Txt.partition a b).2.2])) else none
 |_,_=>none
theorem zGA:MtD K (fun x xs H Q=>∃a b,x=.str a∧xs=[.str b]∧(b.length==0)=false∧a.length≤sizeLine∧
  ∀p,H p=none→Q (.ref p) (upd H p (.tup [.str (Txt.partition a b).1,.str (Txt.partition a b).2.1,.str (Txt.partition a b).2.2]))) zCD:=by
 intro Hk H x vs d ds res Q e hx hv h q
 unfold zCD at h
 split at h
 ·split at h
  ·rename_i hz
   cases h
   cases hv with
   |cons v1 v2=>
    cases v2
    exact ⟨_,_,hx.str,by rw [v1.str],hz.1,zFQ hz.2,fun p hp=>q _ _ (.inr ⟨p,_,_,rfl,rfl,hp,rfl,.cons (.str _) (.cons (.str _) (.cons (.str _) .nil))⟩)⟩
  ·cases h
 ·cases h
def zFe (x:Str):List PyData:=x.cps.toList.map fun c=>.str ⟨#[c]⟩
def mItS (m:ME):MI:=fun env=>(m env).bind fun p=>match p.1 with
 |.dat (.str x)=>some (zFe x,p.2)
 |_=>none
theorem zKw {x:Str} {Hk:Hp}:zGg K Hk (Its x) (zFe x):=by
 intro Hk2 H2 s2 e2 i
 refine ⟨fun d hd=>?_,fun hl=>?_⟩
 ·unfold zFe at hd
  rw [oO] at hd
  obtain ⟨c,hc,rfl⟩:=oD.mp hd
  have hc':x.cps[i]?=some c:=by simpa using hc
  refine ⟨?_,fun v H' hv=>?_⟩
  ·show i<x.cps.size
   by_cases h:i<x.cps.size
   ·exact h
   ·rw [Array.getElem?_eq_none (by omega)] at hc'
    cases hc'
  ·obtain ⟨rfl,c',h1,rfl⟩:=hv
   rw [hc'] at h1
   cases h1
   exact .inl ⟨rfl,.str _⟩
 ·show x.cps.size≤i
  simpa [zFe] using hl
theorem zLZ {m:ME} {σ:St} {H:Hp} {R:It→Hp→Prop} (h:tI K (mItS m) σ H R):iStr (tE K m) σ H R:=by
 obtain ⟨B,env,Hk,ds,env',R0,hm,k⟩:=h
 obtain ⟨⟨r,e1⟩,h1,hm⟩:=oC.mp hm
 refine ⟨B,env,Hk,r,e1,R0,h1,fun v Hk1 H1 R1 s1 o1=>?_⟩
 cases r with
 |new c=>cases hm
 |slt i=>cases hm
 |pv p=>cases hm
 |dat d=>
  cases d with
  |str x=>
   cases hm
   cases o1
   exact ⟨x,rfl,k _ Hk1 H1 R1 s1 zKw⟩
  |_=>cases hm
theorem zMF {tg e:Expr} {m:ME} (he:VE X e m):VI X tg e (mItS m):=(pi_str he).imp fun _ _ _=>zLZ
def zIL (i:Nat) (m:ME):MS:=fun env=>match env[i]? with
 |some (.val (.str a))=>(m env).bind fun p=>match p.1 with
  |.dat (.str b)=>if a.length+b.length≤100000 then some (.nx,p.2.set i (.val (.str (a++b)))) else none
  |_=>none
 |_=>none
theorem zKN {i:Nat} {m:ME} {W:WX} {D:Ends} {σ:St} {H:Hp} (h:tS K W (zIL i m) D σ H):tAug i (tE K m) (fun x y H Q=>∃i j,x=.str i∧y=.str j∧i.length+j.length≤sizeLine∧Q (.str (i++j)) H) D σ H:=by
 obtain ⟨B,env,Hk,fl,env',R,hm,k⟩:=h
 unfold zIL at hm
 split at hm
 ·rename_i a ha
  obtain ⟨⟨r,e1⟩,h1,hm⟩:=oC.mp hm
  obtain ⟨o,g1,v,rfl,g2⟩:=R.slot i _ ha
  cases g2
  refine ⟨_,g1,B,env,Hk,r,e1,R,h1,fun w Hk1 H1 R1 s1 o1=>?_⟩
  cases r with
  |new c=>cases hm
  |slt i=>cases hm
  |pv p=>cases hm
  |dat d=>
   cases d with
   |str b=>
    dsimp only at hm
    split at hm
    ·rename_i hz
     cases hm
     cases o1
     exact ⟨a,b,rfl,rfl,zFQ hz,k _ Hk1 H1 (R1.setVal (.str _)) s1⟩
    ·cases hm
   |_=>cases hm
 ·cases hm
theorem zLu {i:Nat} {x:Str} {e:Expr} {m:ME} {pos' pos:Pos} (hN:X.N.Nodup) (he:VE X e m) (hi:X.N[i]?=some x:=by rfl) (hx:Loc X.env.scope x:=by first|exact Or.inl rfl|exact Or.inr rfl) (hf:X.fn x=true∨X.env.scope.names.lookup x=some .local:=by first|exact .inl rfl|exact .inr rfl|assumption):
  VS X (.AugAssign (.Name x pos') .Add e pos) (zIL i m):=fun W _=>(ps_aug hN hi hx he iop_add_str hf).imp fun _ _ _=>zKN
end
def pInS (neg:Bool) (x y:Str):Option Bool:=match x.cps.toList with
 |[c]=>some (neg ^^ decide (c∈y.cps.toList))
 |_=>none
theorem x_inS {neg:Bool} {x y:Str}:gInS neg (.str x) (.str y)=(pInS neg x y).map (fun z=>.dat (.bool z)):=by
 unfold gInS pInS;dsimp only
 split<;>rfl
def zBE (a b:Str):Option (Str×Str×Str):=if (b.length==0)=false∧a.length≤100000 then some (Txt.partition a b) else none
theorem zHw {a b:Str}:zCD (.str a) [.str b]=(zBE a b).map (fun z=>.dat (eT3 eS eS eS z)):=by
 simp only [zCD,zBE];split<;>rfl
def zDY (x:Str):List Str:=x.cps.toList.map fun c=>⟨#[c]⟩
theorem zI6 (x:Str):zFe x=(zDY x).map eS:=by
 unfold zFe zDY;rw [List.map_map];rfl
section
variable {β γ:Type} {env e e2:Sl} {R:Option β} {m:ME} {ms:MA}
def itSK (r:Res) (e:Sl) (K:List PyData→Sl→Option β):Option β:=match r with
 |.dat (.str x)=>K ((zDY x).map eS) e
 |_=>none
theorem c_bu {K:List PyData→Sl→Option β} (k:bnd (m env) (fun r e=>itSK r e K)=R):bnd (mItS m env) K=R:=by
 rw [←k];unfold mItS bnd itSK
 cases m env with
 |none=>rfl
 |some p=>
  cases p with
  |mk r e=>
   cases r with
   |dat d=>
    cases d with
    |str x=>
     show K (zFe x) e=K ((zDY x).map eS) e
     rw [zI6]
    |_=>rfl
   |_=>rfl
theorem c_bt {K:List PyData→Sl→Option β} {x:Str} (k:K ((zDY x).map eS) e=R):itSK (.dat (.str x)) e K=R:=k
def zMg (i:Nat) (a:Str) (r:Res) (e:Sl) (K:Fl→Sl→Option β):Option β:=match r with
 |.dat (.str b)=>(zD7 a b).bind fun z=>K .nx (e.set i (.val (.str z)))
 |_=>none
theorem c_bH {i:Nat} {x:Str} {K:Fl→Sl→Option β} (h:env[i]?=some (.val (.str x))) (k:bnd (m env) (fun r e=>zMg i x r e K)=R):bnd (zIL i m env) K=R:=by
 rw [←k];unfold zIL bnd zMg
 rw [h];simp only
 cases m env with
 |none=>rfl
 |some p=>
  cases p with
  |mk r e=>
   cases r with
   |dat d=>
    cases d with
    |str b=>
     simp only [oA,zD7]
     split<;>rfl
    |_=>rfl
   |_=>rfl
theorem c_bG {i:Nat} {x y:Str} {K:Fl→Sl→Option β} {k:Str→Option γ} {h:γ→Option β} (E:Str→Sl) (hs:∀z,e.set i (.val (.str z))=E z) (p:∀z,K .nx (E z)=(k z).bind h):zMg i x (.dat (.str y)) e K=((zD7 x y).bind k).bind h:=by
 show ((zD7 x y).bind fun z=>K .nx (e.set i (.val (.str z))))=_
 cases zD7 x y with
 |none=>rfl
 |some z=>
  show K .nx (e.set i (.val (.str z)))=_
  rw [hs];exact p z
end
def zII (d:PyData):Option Int:=match d with
 |.list ds=>some ds.length
 |.tuple ds=>some ds.length
 |.str x=>if x.length≤100000 then some x.length else none
 |_=>none
theorem zKT {d:PyData}:gLen [d]=(zII d).map (fun z=>.dat (.int z)):=by
 cases d with
 |str x=>
  simp only [gLen,zII]
  split<;>rfl
 |_=>rfl
def pIsi (T:String) (d:PyData):Option Bool:=kitB (tyN d) T
def zCj (S T:String) (d:PyData):Option Bool:=(kitB (tyN d) S).bind fun b=>(kitB (tyN d) T).map fun c=>(b||c)
section
variable {β γ:Type} {env e e2:Sl} {R:Option β} {m:ME} {ms:MA} {K:Res→Sl→Option β}
def isiK (T:String) (r:Res) (e:Sl) (K:Res→Sl→Option β):Option β:=(rdv e (stab r)).bind fun d=>(pIsi T d).bind fun b=>K (.dat (.bool b)) e
theorem c_I {T:String} (k:bnd (m env) (fun r e=>isiK T r e K)=R):bnd (mIsi T m env) K=R:=by
 rw [←k];unfold mIsi bnd isiK pIsi
 cases m env with
 |none=>rfl
 |some p=>
  simp only [oA]
  cases rdv p.2 (stab p.1) with
  |none=>rfl
  |some d=>
   simp only [oA]
   cases kitB (tyN d) T<;>rfl
theorem c_H {T:String} {r:Res} {d:PyData} {k:Bool→Option γ} {h:γ→Option β} (h1:rdv e (stab r)=some d) (p:∀b,K (.dat (.bool b)) e=(k b).bind h):isiK T r e K=((pIsi T d).bind k).bind h:=by
 unfold isiK;rw [h1]
 show ((pIsi T d).bind fun b=>K (.dat (.bool b)) e)=_
 cases pIsi T d with
 |none=>rfl
 |some b=>exact p b
def zKy (S T:String) (r:Res) (e:Sl) (K:Res→Sl→Option β):Option β:=(rdv e (stab r)).bind fun d=>(zCj S T d).bind fun b=>K (.dat (.bool b)) e
theorem c_aI {S T:String} (k:bnd (m env) (fun r e=>zKy S T r e K)=R):bnd (zHQ S T m env) K=R:=by
 rw [←k];unfold zHQ bnd zKy zCj
 cases m env with
 |none=>rfl
 |some p=>
  simp only [oA]
  cases rdv p.2 (stab p.1) with
  |none=>rfl
  |some d=>
   simp only [oA]
   cases kitB (tyN d) S with
   |none=>rfl
   |some b=>
    simp only [oA]
    cases kitB (tyN d) T<;>rfl
theorem c_aH {S T:String} {r:Res} {d:PyData} {k:Bool→Option γ} {h:γ→Option β} (h1:rdv e (stab r)=some d) (p:∀b,K (.dat (.bool b)) e=(k b).bind h):zKy S T r e K=((zCj S T d).bind k).bind h:=by
 unfold zKy;rw [h1]
 show ((zCj S T d).bind fun b=>K (.dat (.bool b)) e)=_
 cases zCj S T d with
 |none=>rfl
 |some b=>exact p b
end
section
variable {X:Cx} {K:oB}
def zipA (x y:PyData):Option (List PyData):=match x,y with
 |.list xs,.list ys=>some (zipD xs ys)
 |.tuple xs,.tuple ys=>some (zipD xs ys)
 |_,_=>none
def zJn (ms:MA):MI:=fun env=>(ms env).bind fun p=>match p.1 with
 |[.dat x,.dat y]=>(zipA x y).map fun ds=>(ds,p.2)
 |_=>none
theorem zJ1 {ms:MA} {σ:St} {H:Hp} {R:It→Hp→Prop} (h:tI K (zJn ms) σ H R):RZ.iZipA K (tA K ms) σ H R:=by
 obtain ⟨B,env,Hk,ds,env',R0,hm,k⟩:=h
 obtain ⟨⟨rs,e1⟩,h1,hm⟩:=oC.mp hm
 refine ⟨B,env,Hk,rs,e1,R0,h1,fun vs Hk1 H1 R1 s1 o1=>?_⟩
 split at hm
 ·rename_i x y he
  obtain ⟨zs,hz,hm⟩:=oD.mp hm
  cases hm
  have he:rs=[.dat x,.dat y]:=he
  subst he;cases o1 with
  |cons o1 o2=>
   cases o2 with
   |cons o2 o3=>
    cases o3
    unfold zipA at hz
    split at hz
    ·cases hz
     cases o1 with
     |lst g1 g2=>
      cases o2 with
      |lst g3 g4=>
       refine ⟨_,_,_,_,rfl,.inl ⟨SqL.of (R1.ex _ _ g1),SqL.of (R1.ex _ _ g3),k _ Hk1 H1 R1 s1 ?_⟩⟩
       intro Hk2 H2 s2 e2 i
       have w1:=SqL.of (K:=K) (e2 _ _ (s2 _ _ g1))
       have w2:=SqL.of (K:=K) (e2 _ _ (s2 _ _ g3))
       refine ⟨fun d hi=>?_,fun hl=>⟨_,_,w1,w2,by rw [g2.len,g4.len];rw [zES] at hl;omega⟩⟩
       obtain ⟨x,y,q1,q2,rfl⟩:=zET _ _ i d hi
       obtain ⟨v,q3,q4⟩:=g2.get i x q1
       obtain ⟨u,q5,q6⟩:=g4.get i y q2
       refine ⟨⟨_,_,v,u,w1,w2,q3,q5⟩,fun z H' hz=>?_⟩
       obtain ⟨T,v',u',rfl,hT,rfl,hx,hy⟩:=hz
       have e3:=hx _ w1
       have e4:=hy _ w2
       rw [q3] at e3
       rw [q5] at e4
       cases e3
       cases e4
       exact .inr ⟨T,_,_,rfl,rfl,hT,rfl,.cons (zAG s2 _ _ q4) (.cons (zAG s2 _ _ q6) .nil)⟩
    ·cases hz
     cases o1 with
     |tup g1 g2=>
      cases o2 with
      |tup g3 g4=>
       refine ⟨_,_,_,_,rfl,.inr ⟨zAV R1.ex g1,zAV R1.ex g3,k _ Hk1 H1 R1 s1 ?_⟩⟩
       intro Hk2 H2 s2 e2 i
       have w1:=zAV e2 (zAV s2 g1)
       have w2:=zAV e2 (zAV s2 g3)
       refine ⟨fun d hi=>?_,fun hl=>⟨_,_,w1,w2,by rw [g2.len,g4.len];rw [zES] at hl;omega⟩⟩
       obtain ⟨x,y,q1,q2,rfl⟩:=zET _ _ i d hi
       obtain ⟨v,q3,q4⟩:=g2.get i x q1
       obtain ⟨u,q5,q6⟩:=g4.get i y q2
       refine ⟨⟨_,_,v,u,w1,w2,q3,q5⟩,fun z H' hz=>?_⟩
       obtain ⟨T,v',u',rfl,hT,rfl,hx,hy⟩:=hz
       have e3:=hx _ w1
       have e4:=hy _ w2
       rw [q3] at e3
       rw [q5] at e4
       cases e3
       cases e4
       exact .inr ⟨T,_,_,rfl,rfl,hT,rfl,.cons (zAG s2 _ _ q4) (.cons (zAG s2 _ _ q6) .nil)⟩
    ·cases hz
 ·cases hm
theorem zLw {e e2:Expr} {ms:MA} {p pos tpos:Pos} {elts:List Expr} {kk:Nat} (hm:X.mg "zip"=none) (ha:VA X [e,e2] ms) (hg:Gl X "zip":=by rfl)
  (hs:starEach [e,e2] X.env=(false,eval e X.env)::starEach [e2] X.env:=by rfl) (hpl:(backTo pos (starEach [e2] X.env)).any (·.1)=false:=by rfl):
  VI X (.Tuple elts kk tpos) (.Call (.Name "zip" p) [e,e2] [] pos) (zJn ms):=(RZ.pi_zipA hg hm ha hs hpl).imp fun _ _ _=>zJ1
end
section
variable {β γ:Type} {env e:Sl} {R:Option β} {ms:MA} {K:List PyData→Sl→Option β}
def zGx (x y:PyData):Option (List (PyData×PyData)):=match x,y with
 |.list xs,.list ys=>some (xs.zip ys)
 |.tuple xs,.tuple ys=>some (xs.zip ys)
 |_,_=>none
def zLp (rs:List Res) (e:Sl) (K:List PyData→Sl→Option β):Option β:=match rs with
 |[.dat x,.dat y]=>(zGx x y).bind fun l=>K (l.map (eT2 eD eD)) e
 |_=>none
theorem zJ0 (xs ys:List PyData):zipD xs ys=(xs.zip ys).map (eT2 eD eD):=by
 have:=zHv (e:=eD) (f:=eD) xs ys
 simpa using this
theorem c_a7 (k:bnd (ms env) (fun rs e=>zLp rs e K)=R):bnd (zJn ms env) K=R:=by
 rw [←k];unfold zJn bnd zLp
 cases ms env with
 |none=>rfl
 |some p=>
  cases p with
  |mk rs e=>
   simp only [oA]
   have hz:∀x y:PyData,((zipA x y).map fun ds=>(ds,e)).bind (fun p=>K p.1 p.2)=(zGx x y).bind fun l=>K (l.map (eT2 eD eD)) e:=fun x y=>by
    unfold zipA zGx;cases x<;>cases y<;>simp [zJ0]
   rcases rs with _|⟨r1,_|⟨r2,_|⟨r3,rs⟩⟩⟩
   ·rfl
   ·cases r1<;>rfl
   ·cases r1 with
    |dat x=>
     cases r2 with
     |dat y=>exact hz x y
     |_=>rfl
    |_=>rfl
   ·cases r1 with
    |dat x=>cases r2<;>rfl
    |_=>rfl
theorem c_a6 {x y:PyData} {rs:List Res} {k:List (PyData×PyData)→Option γ} {h:γ→Option β} (hr:rs=[.dat x,.dat y]) (p:∀l,K (l.map (eT2 eD eD)) e=(k l).bind h):zLp rs e K=((zGx x y).bind k).bind h:=by
 subst hr;show ((zGx x y).bind fun l=>K (l.map (eT2 eD eD)) e)=_
 cases zGx x y with
 |none=>rfl
 |some l=>exact p l
end
def pIsN (neg:Bool) (d:PyData):Bool:=neg ^^ zDh d
theorem zH4 {neg:Bool} {d:PyData}:gIsN neg d .none=some (.dat (.bool (pIsN neg d))):=rfl
section
variable {X:Cx} {K:oB}
end
section
variable {β γ:Type} {env e:Sl} {R:Option β} {m:ME} {ml mh ms:MO} {K:Res→Sl→Option β}
end
theorem zLq {α:Type} {e:α→PyData} {x:Option α} (h:∀x,zDh (e x)=false):gIsN false (eO e x) .none=some (.dat (.bool x.isNone)):=by
 cases x with
 |none=>rfl
 |some y=>show some (Res.dat (.bool (false ^^ zDh (e y))))=_;rw [h];rfl
theorem zCC:kitB "NoneType" "list"=some false:=by decide+kernel
theorem zCm:kitB "NoneType" "tuple"=some false:=by decide+kernel
theorem zGD:kitB "bool" "bool"=some true:=by decide+kernel
theorem zEj:kitB "bool" "list"=some false:=by decide+kernel
theorem zDG:kitB "bool" "tuple"=some false:=by decide+kernel
theorem zHf:kitB "int" "bool"=some false:=by decide+kernel
theorem zHT:kitB "int" "int"=some true:=by decide+kernel
theorem zHS:kitB "int" "str"=some false:=by decide+kernel
theorem zEH:kitB "int" "list"=some false:=by decide+kernel
theorem zEi:kitB "int" "tuple"=some false:=by decide+kernel
theorem zHe:kitB "str" "bool"=some false:=by decide+kernel
theorem zHR:kitB "str" "str"=some true:=by decide+kernel
theorem zEG:kitB "str" "list"=some false:=by decide+kernel
theorem zEg:kitB "str" "tuple"=some false:=by decide+kernel
theorem zEh:kitB "list" "list"=some true:=by decide+kernel
theorem zDF:kitB "list" "tuple"=some false:=by decide+kernel
theorem zDE:kitB "tuple" "list"=some false:=by decide+kernel
theorem zDg:kitB "tuple" "tuple"=some true:=by decide+kernel
end Cm
namespace Cm
open PySem PySem.Spec PyProof.Rows L2
section
variable {Pg:Program} {W:World} {Ar:Around} {Er:Value→Shared→Prop} {S0:Shared}
end
section
variable {X:Cx}
def rSetL (K:oB) (w:World):List V→Hp→VK→Prop:=fun xs H Q=>∃(l:Addr) (zs:List Int),xs=[.ref l]∧SqL K H l (zs.map V.int)∧zs.length≤1000∧
 ∀p c,H p=none→(∀D:List Int,(∀z∈zs,z∈D)→c≤D.length)→Q (.ref p) (upd H p (SetO w p (fun j=>decide (j∈zs)) c))
end
section
variable {X:Cx} {K:oB}
end
section
variable {β γ:Type} {env e:Sl} {R:Option β} {m:ME} {K:Res→Sl→Option β}
end
section
variable {β γ α' τ:Type} {α:Type} {K:α→α'→Option β}
theorem c_bv {x:Option τ} {a b:Option (α×α')} {A:Option γ} {B:τ→Option γ} {h:γ→Option β} (p:x=none→bnd a K=A.bind h) (q:∀v,x=some v→bnd b K=(B v).bind h):bnd (if x.isNone=true then a else b) K=(x.elim A B).bind h:=by
 cases x with
 |none=>exact p rfl
 |some v=>exact q v rfl
end
end Cm
namespace Cm
open PySem L2
section
variable {X:Cx} {K:oB}
end
section
variable {β γ:Type} {env e e2:Sl} {R:Option β} {m:ME} {K:Res→Sl→Option β} {i:Nat}
end
theorem flat_eO {α:Type} {e:α→PyData} {z:Option α} (h:∀x,flatD (e x)=true):flatD (eO e z)=true:=by
 cases z with
 |none=>rfl
 |some x=>exact h x
section
variable {X:Cx} {js:List Nat} {g:MG} {t:MT} {me:ME} {mi:MI} {pos:Pos}
end
end Cm
namespace Cm
open PySem L2
section
variable {X:Cx} {K:oB}
end
def pIxD (d:PyData) (i:Int):Option PyData:=match d with
 |.list ds=>atI ds i
 |.tuple ds=>atI ds i
 |.str z=>if z.length≤100000 then (atI z.cps.toList i).map fun c=>.str ⟨#[c]⟩ else none
 |_=>none
theorem x_ixD {d:PyData} {i:Int}:gIx d (.int i)=(pIxD d i).map .dat:=by
 cases d with
 |str z=>
  simp only [gIx,pIxD]
  split
  ·rw [Option.map_map];rfl
  ·rfl
 |_=>rfl
section
variable {K:oB}
end
end Cm
namespace Cm
open PySem L2
section
variable {X:Cx} {K:oB}
end
end Cm
namespace Cm
open PySem L2
section
variable {X:Cx} {K:oB}
theorem zMH {tg e:Expr} {m1 m2:MI} (h1:VI X tg e m1) (h2:VI X tg e m2):VI X tg e (fun env=>(m1 env).or (m2 env)):=⟨fun pins s σ H Q I q=>by
 obtain ⟨B,env,Hk,r,env',R,hm,k⟩:=q
 cases e1:m1 env with
 |some z=>
  simp only [e1,Option.some_or] at hm
  exact h1.run pins s σ H Q I ⟨B,env,Hk,r,env',R,by rw [e1];exact hm,k⟩
 |none=>
  simp only [e1,Option.none_or] at hm
  exact h2.run pins s σ H Q I ⟨B,env,Hk,r,env',R,hm,k⟩⟩
def mItD (m:ME):MI:=fun env=>(mItL m env).or (mItT m env)
theorem zK2 {tg e:Expr} {m:ME} (h:VE X e m):VI X tg e (mItD m):=zMH (zDM h) (zIX h)
end
def pItD (d:PyData):Option (List PyData):=match d with
 |.list ds=>some ds
 |.tuple ds=>some ds
 |_=>none
section
variable {β γ:Type} {env e e2:Sl} {R:Option β} {m:ME} {ms:MA} {K:List PyData→Sl→Option β} {ds:List PyData}
def itDK (r:Res) (e:Sl) (K:List PyData→Sl→Option β):Option β:=match r with
 |.dat d=>(pItD d).bind fun l=>K (l.map eD) e
 |_=>none
theorem c_aW (k:bnd (m env) (fun r e=>bnd (frz (r,e)) fun r e=>itDK r e K)=R):bnd (mItD m env) K=R:=by
 rw [←k];unfold mItD mItL mItT mFrz bnd
 cases m env with
 |none=>rfl
 |some p=>
  simp only [oA]
  cases frz p with
  |none=>rfl
  |some q=>
   cases q with
   |mk r e=>
    cases r with
    |dat d=>cases d<;>simp [itDK,pItD]
    |_=>rfl
theorem c_aV {d:PyData} {k:List PyData→Option γ} {h:γ→Option β} (p:∀l:List PyData,K (l.map eD) e=(k l).bind h):itDK (.dat d) e K=((pItD d).bind k).bind h:=by
 show ((pItD d).bind fun l=>K (l.map eD) e)=_
 cases pItD d with
 |none=>rfl
 |some l=>exact p l
end
def zIi:List PyData→Option Res
 |[.list ds]=>some (.dat (.tuple ds))
 |[.tuple ds]=>some (.dat (.tuple ds))
 |_=>none
section
variable {K:oB}
theorem zKK:zEx K (fun xs H Q=>∃p ys,xs=[.ref p]∧((SqL K H p ys∧∀l,H l=none→Q (.ref l) (upd H l (.tup ys)))∨(SqT K H p ys∧Q (.ref p) H))) zIi:=by
 intro Hk H vs ds res Q e hv h q
 unfold zIi at h
 split at h
 ·cases h
  cases hv with
  |cons v1 v2=>
   cases v2
   obtain ⟨a,ws,rfl,g1,g2⟩:=v1.list e
   exact ⟨a,ws,rfl,.inl ⟨SqL.of g1,fun l hl=>q _ _ (.inr ⟨l,ws,_,rfl,rfl,hl,rfl,g2⟩)⟩⟩
 ·cases h
  cases hv with
  |cons v1 v2=>
   cases v2
   obtain ⟨a,ws,rfl,g1,g2⟩:=v1.tup e
   refine ⟨a,ws,rfl,.inr ⟨g1,q _ _ (.inl ⟨rfl,?_⟩)⟩⟩
   rcases v1 with v1|⟨_,c,_,z,_⟩
   ·exact v1
   ·cases c<;>cases z
 ·cases h
end
theorem zMm {ds:List PyData}:zIi [.list ds]=some (.dat (.tuple ds)):=rfl
section
variable {α β γ δ ε:Type}
end
theorem zJk {l:List PyData}:l.map eD=l:=List.map_id' l
section
variable {β γ τ:Type} {e e2:Sl} {i:Nat} {K:Fl→Sl→Option β} {k:τ→Option γ} {h:γ→Option β} {R:Option β}
theorem c_bd {d d':List PyData} (hd:d=d') (p:setK i (.new (.lst d')) e K=R):setK i (.new (.lst d)) e K=R:=by subst hd;exact p
end
end Cm
namespace Cm
open PySem L2
def zKu:PyData→Option Key
 |.int i=>some (.inl i)
 |.str x=>some (.inr x)
 |_=>none
def dGet (es:List (PyData×PyData)) (k:Key):Option PyData:=(es.find? fun p=>decide (zKu p.1=some k)).map (·.2)
section
variable {K:oB} {Hk H:Hp}
theorem View.key {v:V} {d:PyData} {k:Key} (h:View K Hk H v d) (e:zKu d=some k):v=kV k:=by
 cases d with
 |int i=>cases e;exact h.int
 |str x=>cases e;exact h.str
 |_=>cases e
end
section
variable {X:Cx} {K:oB}
end
section
variable {X:Cx} {K:oB} {B:Fb} {env:Sl} {σ:St} {Hk:Kn} {H:Hp}
def Fb.hold (B:Fb) (p:Addr) (o:HO):Fb:=B.guard p o
theorem Rel.hold (R:Rel K B env σ Hk H) {p:Addr} {o:HO} (h:H p=none):Rel K (B.hold p o) env σ Hk (upd H p o):=
 (R.laid h).guard upd_same (R.kfree h) (R.fresh0 h) (R.pfree h) fun j s hj hm=>R.mutNe h hj hm
inductive PrsAll (K:oB) (Hk:Hp):List (V×V)→List (PyData×PyData)→Prop
 |nil:PrsAll K Hk [] []
 |cons {v w:V} {k d:PyData} {ps:List (V×V)} {es:List (PyData×PyData)}:Dv K Hk v k→Dv K Hk w d→PrsAll K Hk ps es→PrsAll K Hk ((v,w)::ps) ((k,d)::es)
inductive VPs (X:Cx):List (Option Expr)→List Expr→List (ME×ME)→Prop
 |nil:VPs X [] [] []
 |cons {k v:Expr} {mk mv:ME} {ks:List (Option Expr)} {vs:List Expr} {l:List (ME×ME)}:VE X k mk→VE X v mv→VPs X ks vs l→VPs X (some k::ks) (v::vs) ((mk,mv)::l)
end
end Cm
namespace Cm
open PySem L2
section
variable {X:Cx} {K:oB} {B:Fb} {env:Sl} {σ:St} {Hk:Kn} {H:Hp}
def lk:Res×Sl→Option (List (PyData×PyData)×Sl)
 |(.new (.dct es),e)=>some (es,e)
 |(.slt i,e)=>match e[i]? with
  |some (.own (.dct es))=>some (es,e.set i (.val (.dict es)))
  |_=>none
 |_=>none
theorem Rel.lk (R:Rel K B env σ Hk H) {r:Res} {v:V} {es:List (PyData×PyData)} {env':Sl} (o:zCG K B env σ Hk H r v) (h:Cm.lk (r,env)=some (es,env')):
  ∃d kvs,v=.ref d∧H d=some (.dK kvs)∧DvKv K Hk kvs es∧∀od,Rel K B env' σ (Hk.upd d (.frz od (.dK kvs))) (upd H d (.frz od (.dK kvs)))∧KSame Hk (Hk.upd d (.frz od (.dK kvs))):=by
 cases r with
 |dat d=>cases h
 |pv p=>cases h
 |new c=>
  cases c with
  |lst ds=>cases h
  |dct es'=>
   cases h
   obtain ⟨a,rfl,h1,h2,⟨kvs,h3,h4⟩,hP,h5⟩:=o
   refine ⟨a,kvs,rfl,h3,h4,fun od=>⟨?_,zCg h1⟩⟩
   exact (R.other (u:=.frz od (.dK kvs)) h1 h2 hP (fun x z=>by rw [h3] at z;cases z) h5).know upd_same h1 h2 hP h5
 |slt i=>
  unfold Cm.lk at h;have o:σ[i]?=some (some v):=o
  cases q:env[i]? with
  |none=>simp only [q] at h;cases h
  |some s=>
   simp only [q] at h
   cases s with
   |no=>cases h
   |scr ns=>cases h
   |pin a=>cases h
   |pv p=>cases h
   |sto M=>cases h
   |io k c=>cases h
   |val d=>cases h
   |own c=>
    cases c with
    |lst ds=>cases h
    |dct es'=>
     cases h
     obtain ⟨o',g1,a,e1,q1,q2,kvs,q3,q4⟩:=R.slot i _ q
     rw [o] at g1
     cases g1
     cases e1
     refine ⟨a,kvs,rfl,q3,q4,fun od=>⟨?_,zCg q1⟩⟩
     have hlt:i<σ.length:=(oE.mp o).1
     have R1:Rel K B (env.set i .no) σ Hk H:=by
      have:=R.setNo (i:=i) (o:=some (.ref a))
      rwa [show σ.set i (some (.ref a))=σ from by
       apply List.ext_getElem?
       intro n
       by_cases e:i=n
       ·subst e
        rw [oM hlt,o]
       ·rw [oH e]] at this
     have hn:∀(j:Nat) s,(env.set i .no)[j]?=some s→s.mut→σ[j]?≠some (some (V.ref a)):=fun j s hj hm z=>by
      rcases zAv hj with ⟨rfl,rfl⟩|⟨hne,hj⟩
      ·cases hm
      ·exact hne (R.sep j i s _ a hj q hm trivial z o)
     have hP:∀(n:Nat),Hk.P n≠some a:=fun n=>R.psep i _ a n q trivial o
     have R2:=(R1.other (u:=.frz od (.dK kvs)) q1 q2 hP (fun x z=>by rw [q3] at z;cases z) hn).know upd_same q1 q2 hP hn
     have R3:=R2.setVal (i:=i) (v:=.ref a) (d:=.dict es) (.dct (.inr ⟨od,show upd Hk.k a _ a=_ from upd_same⟩) (dvKv_mono (zBm q1) q4))
     rw [List.set_set] at R3
     rwa [show σ.set i (some (.ref a))=σ from by
      apply List.ext_getElem?
      intro n
      by_cases e:i=n
      ·subst e
       rw [oM hlt,o]
      ·rw [oH e]] at R3
end
end Cm
namespace Cm
open PySem L2
section
variable {X:Cx} {K:oB} {B:Fb} {env:Sl} {σ:St} {Hk:Kn} {H:Hp}
mutual
theorem zMc {H':Hp} (e:Same H H'):∀{v:V} {d:PyData},Dp K H v d→Dp K H' v d
 |_,_,.non=>.non
 |_,_,.bl b=>.bl b
 |_,_,.int i=>.int i
 |_,_,.str x=>.str x
 |_,_,.lst h q=>.lst (e.seq h) (dpAll_mono e q)
 |_,_,.tup h q=>.tup (zAV e h) (dpAll_mono e q)
theorem dpAll_mono {H':Hp} (e:Same H H'):∀{v:List V} {d:List PyData},DpAll K H v d→DpAll K H' v d
 |_,_,.nil=>.nil
 |_,_,.cons h1 h2=>.cons (zMc e h1) (dpAll_mono e h2)
end
end
end Cm
namespace Cm
open PySem L2
section
variable {P:Program} {w:World} {fd:FuncData} {x:Str}
def KX (P:Program) (w:World) (fd:FuncData) (x:Str) (e:Expr) (f:PyData→Option PyData):Prop:=
 ∀(s0:Shared) (L a:Addr) (m:Str→Option Value) (u:Value) (d k:PyData),fd.scope.kind=.function→(callEnv fd L a).kindOf x=some .local→m x=some u→Reads s0.heap u d []→f d=some k→
  ∀(A:Around) (E:Value→Shared→Prop) (s:Shared) (Q:Value→Shared→Prop),InCall s0 L m s→(∀v s',InCall s0 L m s'→(∀b o,s.heap.get? b=some o→s'.heap.get? b=some o)→Reads s'.heap v k []→Q v s')→
   wpAny (model P w) A (eval e (callEnv fd L a)) Q E s
end
mutual
def noL:PyData→Bool
 |.list _=>false
 |.dict _=>false
 |.tuple ds=>noLs ds
 |_=>true
def noLs:List PyData→Bool
 |[]=>true
 |d::ds=>noL d&&noLs ds
end
section
variable {X:Cx} {K:oB} {B:Fb} {env:Sl} {σ:St} {Hk H:Hp}
mutual
theorem zMS {pins:List (Addr×Obj)} {s:Shared} (I:Inv X pins σ H s):∀{v:V} {d:PyData},Dv X.K H v d→noL d=true→∀u,RelV v u→Reads s.heap u d []
 |_,_,.non,_,u,r=>by cases r;exact .none
 |_,_,.bl b,_,u,r=>by cases r;exact .bool b
 |_,_,.int i,_,u,r=>by obtain ⟨t,rfl⟩:=r;exact .int i t
 |_,_,.str x,_,u,r=>by obtain ⟨t,rfl⟩:=r;exact .str x t
 |_,_,.lst _ _,h,_,_=>by simp [noL] at h
 |_,_,.dct _ _,h,_,_=>by simp [noL] at h
 |_,_,.tup h q,hn,u,r=>by
  cases r
  obtain ⟨its,rv,⟨o,g1,g2,n,g3⟩,_⟩:=I.tuple h
  exact .tuple g1 g2 g3 (readsAll0 I q (by simpa [noL] using hn) _ rv)
theorem readsAll0 {pins:List (Addr×Obj)} {s:Shared} (I:Inv X pins σ H s):∀{vs:List V} {ds:List PyData},DvAll X.K H vs ds→noLs ds=true→∀us,Vals vs us→ReadsAll s.heap us ds []
 |_,_,.nil,_,us,r=>by cases r;exact .nil
 |_,_,.cons (d:=d) (ds:=ds) h1 h2,hn,us,r=>by
  have hn:noL d=true∧noLs ds=true:=by simpa [noLs] using hn
  cases r with
  |cons r1 r2=>exact .cons (bs:=[]) (zMS I h1 hn.1 _ r1) (readsAll0 I h2 hn.2 _ r2)
end
end
end Cm
namespace Cm
open PySem L2
section
variable {α β:Type}
structure KeyE (e:α→PyData) (kk:α→Key):Prop where
 key:∀a,zKu (e a)=some (kk a)
 inj:∀a b,kk a=kk b→a=b
 kd:∀a,keyD (kk a)=e a
variable [DecidableEq α] {ek:α→PyData} {ev:β→PyData} {kk:α→Key}
end
section
variable {τ:Type} {ev:τ→PyData}
end
section
variable {β γ δ:Type} {env e e1 e2:Sl} {R:Option β} {i:Nat} {m mo mk mx:ME}
section
variable {K:Res→Sl→Option β}
end
section
variable {K:Res→Sl→Option β} {l:List (ME×ME)}
end
section
variable {K:Sl→Option β} {d:PyData}
end
section
variable {K:Fl→Sl→Option β} {j:Nat}
end
section
variable {K:List PyData→Sl→Option β}
end
section
variable {α τ:Type}
end
section
variable {K:Res→Sl→Option β}
end
end
section
variable {X:Cx} {js:List Nat} {g:MG} {t:MT} {me:ME} {mi:MI} {pos:Pos}
end
section
variable {α β γ δ ε ζ η:Type}
end
section
variable {β γ:Type} {env e e1 e2:Sl} {R:Option β} {i:Nat} {mk mx:ME} {K:Res→Sl→Option β}
end
end Cm
namespace Cm
open PySem L2
section
variable {X:Cx} {K:oB} {H Hk:Hp}
end
section
variable {α:Type}
end
end Cm
namespace Cm
open PySem L2
def lkL {β:Type} (L:List (Key×β)) (k:Key):Option β:=(L.find? fun p=>decide (p.1=k)).map (·.2)
def KD (w:World) (K:oB) (a:Addr) (L:List (Key×PyData)):Prop:=
 (a==sysModules)=false∧∃(o:Obj) (es:Array DictEntry) (ep:Nat),K.lookup a=some o∧o.ExactDict∧o.data=.dict es ep∧(∀e∈es,∃k,keyIs k e.key=true∧e.hash=keyH w k)∧
  ∀k,(findBy keyIs es k=none∧lkL L k=none)∨∃u v d,findBy keyIs es k=some u∧RelV v u∧lkL L k=some d∧∀H,Dv K H v d
section
variable {X:Cx} {K:oB} {a:Addr} {L:List (Key×PyData)} {x:Str} {i e:Expr} {ty:TE} {p pos apos cpos:Pos}
theorem KD.map {pins:List (Addr×Obj)} {σ:St} {H:Hp} {s:Shared} (D:KD X.w X.K a L) (I:Inv X pins σ H s):∃f,s.heap.MapOf (mixKind X.prog X.w) a f∧∀k,(f k=none∧lkL L k=none)∨∃u v d,f k=some u∧RelV v u∧lkL L k=some d∧∀H,Dv X.K H v d:=by
 obtain ⟨_,o,es,ep,h1,h2,h3,h4,h5⟩:=D
 exact ⟨findBy keyIs es,⟨o,es,ep,I.kIn a o h1,h2,h3,h4,fun _=>rfl⟩,h5⟩
end
section
variable {τ γ β:Type} {ev:τ→PyData} {env e:Sl}
def kS:Key→Option Str
 |.inr s=>some s
 |.inl _=>none
end
def rdK (K:oB):Nat→Value→Option PyData
 |0=>fun _=>none
 |n+1=>fun v=>match v with
  |.none=>some .none
  |.bool b=>some (.bool b)
  |.int i _=>some (.int i)
  |.str x _=>some (.str x)
  |.ref a=>match K.lookup a with
   |some ⟨.type c,_,.seq its _,_⟩=>if c="tuple"∧its.size≤sizeLine then (mapO (rdK K n) its.toList).map .tuple else none
   |_=>none
  |_=>none
theorem zJc {K:oB} {f:Value→Option PyData} (hf:∀u d,f u=some d→∃v,RelV v u∧∀H,Dv K H v d):∀(us:List Value) (ds:List PyData),mapO f us=some ds→∃vs,Vals vs us∧∀H,DvAll K H vs ds
 |[],_,h=>by cases h;exact ⟨[],.nil,fun _=>.nil⟩
 |u::us,ds,h=>by
  obtain ⟨d,h1,h⟩:=oC.mp (show (f u).bind _=_ from h)
  obtain ⟨ds',h2,rfl⟩:=oD.mp h
  obtain ⟨v,a1,a2⟩:=hf u d h1
  obtain ⟨vs,b1,b2⟩:=zJc hf us ds' h2
  exact ⟨v::vs,.cons a1 b1,fun H=>.cons (a2 H) (b2 H)⟩
theorem zK7 {K:oB}:∀(n:Nat) (u:Value) (d:PyData),rdK K n u=some d→∃v,RelV v u∧∀H,Dv K H v d
 |0,_,_,h=>by cases h
 |n+1,u,d,h=>by
  cases u with
  |none=>cases h;exact ⟨.non,rfl,fun _=>.non⟩
  |bool b=>cases h;exact ⟨.bl b,rfl,fun _=>.bl b⟩
  |int i t=>cases h;exact ⟨.int i,⟨t,rfl⟩,fun _=>.int i⟩
  |str x t=>cases h;exact ⟨.str x,⟨t,rfl⟩,fun _=>.str x⟩
  |ref a=>
   unfold rdK at h;dsimp only at h
   split at h
   ·rename_i c od its ep sl hk
    split at h
    ·rename_i hc
     obtain ⟨ds,h1,rfl⟩:=oD.mp h
     obtain ⟨vs,g1,g2⟩:=zJc (fun u d=>zK7 n u d) its.toList ds h1
     exact ⟨.ref a,rfl,fun H=>.tup (.inr ⟨_,its,ep,hk,by rw [hc.1],rfl,hc.2,g1⟩) (g2 H)⟩
    ·cases h
   ·cases h
  |_=>cases h
theorem rd_at {K:oB} {n:Nat} {a:Addr} {d:PyData} (h:rdK K n (.ref a)=some d) (H:Hp):Dv K H (.ref a) d:=by
 obtain ⟨v,r,q⟩:=zK7 n _ d h
 cases v with
 |ref b=>
  have e:Value.ref a=Value.ref b:=r
  cases e
  exact q H
 |_=>first|exact absurd (show Value.ref a=_ from r) (by simp)|(obtain ⟨t,e⟩:=(show ∃t,Value.ref a=_ from r);cases e)
def kdE (K:oB):List DictEntry→Option (List (Int×Str×PyData))
 |[]=>some []
 |e::es=>match e.key with
  |.str s _=>(rdK K 6 e.val).bind fun d=>(kdE K es).map ((e.hash,s,d)::·)
  |_=>none
def kdO (K:oB) (a:Addr):Option (List (Int×Str×PyData)):=match K.lookup a with
 |some ⟨.type c,none,.dict es _,sl⟩=>if c="dict"∧sl.size=0 then kdE K es.toList else none
 |_=>none
def fixW (b:Bool) (w:World):World:={w with params:={w.params with followText:=fun s=>if s="special-get-raises" then b else w.params.followText s}}
theorem fixW_eq (w:World):fixW (w.params.followText "special-get-raises") w=w:=by
 unfold fixW;have e:(fun s=>if s="special-get-raises" then w.params.followText "special-get-raises" else w.params.followText s)=w.params.followText:=by
  funext s
  by_cases h:s="special-get-raises"
  ·rw [if_pos h,h]
  ·rw [if_neg h]
 rw [e]
open He in
abbrev AlX:Type:=AlD×List (Option PyData)×List (Bool×Option (List (Int×Str×PyData)))
section
open He
def obsX (fa:List Fa) (fn:List DefD) (ds:List (Str×PyData)) (kd:List (Str×List (Str×PyData))) (K:oB):AlX:=(obsD fa fn K,ds.map (fun p=>rdK K 6 (.ref (ga K p.1))),kd.map fun p=>(ga K p.1==sysModules,kdO K (ga K p.1)))
def valX (fn:List DefD) (ds:List (Str×PyData)) (kd:List (Str×List (Str×PyData))) (w:World):AlX:=(valD fn,ds.map (fun p=>some p.2),kd.map fun p=>(false,some (p.2.map fun q=>(hashStr w q.1,q.1,q.2))))
def SaysX (fa:List Fa) (fn:List DefD) (ds:List (Str×PyData)) (kd:List (Str×List (Str×PyData))) (w:World) (K:oB):Prop:=obsX fa fn ds kd K=valX fn ds kd w
variable {fa:List Fa} {fn:List DefD} {ds:List (Str×PyData)} {kd:List (Str×List (Str×PyData))} {w:World} {K:oB}
theorem SaysX.d (c:SaysX fa fn ds kd w K):SaysD fa fn K:=congrArg (fun z:AlX=>z.1) c
theorem SaysX.dat (c:SaysX fa fn ds kd w K) (i:Nat) {p:Str×PyData} (h:ds[i]?=some p:=by rfl) (H:Hp):Dv K H (.ref (ga K p.1)) p.2:=by
 have e:ds.map (fun p=>rdK K 6 (.ref (ga K p.1)))=ds.map (fun p=>some p.2):=congrArg (fun z:AlX=>z.2.1) c
 have e2:(ds.map (fun p=>rdK K 6 (.ref (ga K p.1))))[i]?=(ds.map (fun p=>some p.2))[i]?:=by rw [e]
 rw [oO,oO,h] at e2
 exact rd_at (oG e2) H
end
end Cm
namespace Cm
open PySem L2
section
variable {X:Cx} {K:oB}
def zKD:List PyData→Option Res
 |[.str a]=>if a.length≤640 then (PySem.intText? a).map fun n=>.dat (.int n) else none
 |_=>none
theorem zMd:zEx K (fun xs H Q=>∃a n,xs=[.str a]∧PySem.intText? a=some n∧a.length≤640∧Q (.int n) H) zKD:=by
 intro Hk H vs ds res Q e hv h q
 unfold zKD at h
 split at h
 ·split at h
  ·rename_i hz
   obtain ⟨n,h1,rfl⟩:=oD.mp h
   cases hv with
   |cons v1 v2=>
    cases v2
    rw [v1.str];exact ⟨_,n,rfl,h1,hz,q _ _ (.inl ⟨rfl,.int _⟩)⟩
  ·cases h
 ·cases h
def zJf (a:Str):Option Int:=if a.length≤640 then PySem.intText? a else none
theorem zMr {a:Str}:zKD [.str a]=(zJf a).map (fun z=>.dat (.int z)):=by
 unfold zJf;show (if a.length≤640 then (PySem.intText? a).map fun n=>Res.dat (.int n) else none)=_
 split<;>rfl
end
section
variable {X:Cx} {K:oB}
end
section
variable {β γ:Type} {env e:Sl} {i:Nat} {f:Int→Int→Int} {m mi:ME} {K:Fl→Sl→Option β}
end
end Cm
namespace Cm
open PySem PySem.Spec PyProof.Rows L2
structure FnG (P:Program) (w:World) (K:oB) (mg:Str→Option Value) (base:Heap) (k:Nat) (f:Addr) (fd:FuncData) (ps:List Str) (sp:Sp):Prop where
 count:∀xs H Q E,sp xs H Q E→xs.length=ps.length
 goes:∀(A:Around) (fs:List Env) (s:Shared) (H:Hp) (args:Args) (ys:List Value) (xs:List V) (Q:VK) (E:XK),A.guards=some []→Room k A→Env0 P w K mg base A fs s H→
  BindsTo s fd args (ps.zip ys)→Vals xs ys→sp xs H Q E→codeAny (model P w) A (.call (.ref f) args) (CR CX0 fs P w H s Q E) s
section
variable {P:Program} {w:World} {K:oB} {mg:Str→Option Value} {base:Heap}
theorem FnG.of {k:Nat} {f:Addr} {fd:FuncData} {ps:List Str} {sp:Sp} (F:FnOk P w K mg base CX0 k f fd ps sp):FnG P w K mg base k f fd ps sp:=
 ⟨F.len,fun A fs s H args ys xs Q E _=>F.run A fs s H args ys xs Q E⟩
theorem FnG.less {k:Nat} {f:Addr} {fd:FuncData} {ps:List Str} {sp sp':Sp} (F:FnG P w K mg base k f fd ps sp) (i:∀xs H Q E,sp' xs H Q E→sp xs H Q E):FnG P w K mg base k f fd ps sp':=
 ⟨fun xs H Q E q=>F.count xs H Q E (i xs H Q E q),fun A fs s H args ys xs Q E g r e b v q=>F.goes A fs s H args ys xs Q E g r e b v (i xs H Q E q)⟩
theorem FnG.up {j k:Nat} {f:Addr} {fd:FuncData} {ps:List Str} {sp:Sp} (F:FnG P w K mg base j f fd ps sp) (h:j≤k):FnG P w K mg base k f fd ps sp:=
 ⟨F.count,fun A fs s H args ys xs Q E g r=>F.goes A fs s H args ys xs Q E g (r.mono h)⟩
end
section
variable {X:Cx} {K:oB}
end
section
variable {X:Cx} {K:oB}
end
section
variable {X:Cx} {k:Nat} {f:Addr} {fd:FuncData} {ps:List Str} {x:Str} {p pos:Pos} {e:Expr} {es:List Expr}
end
end Cm
namespace Cm
open PySem PySem.Spec PyProof.Rows L2
inductive Sc where
 |lst (a:Addr)
 |tup (a:Addr)
 |txt (x:Str)
def Sc.at (K:oB) (H:Hp):Sc→List V→Prop
 |.lst a,xs=>SqL K H a xs
 |.tup a,xs=>SqT K H a xs
 |.txt x,xs=>xs=x.cps.toList.map fun c=>V.str ⟨#[c]⟩
def Sc.val:Sc→V
 |.lst a=>.ref a
 |.tup a=>.ref a
 |.txt x=>.str x
def Sc.it (h:Heap) (j:Addr) (i:Nat):Sc→Prop
 |.lst a=>h.IsListIter j a i
 |.tup a=>h.IsTupleIter j a i
 |.txt x=>∃t,h.IsStrIter j (strIterType x) x t i
theorem Sc.obj {c:Sc} {h:Heap} {j:Addr} {i:Nat} (st:c.it h j i):∃o,h.get? j=some o∧∀v,o.data≠.cell v:=by
 cases c with
 |lst a=>
  obtain ⟨o,e,_,d⟩:=st
  exact ⟨o,e,fun v z=>by rw [d] at z;cases z⟩
 |tup a=>
  obtain ⟨o,e,_,d⟩:=st
  exact ⟨o,e,fun v z=>by rw [d] at z;cases z⟩
 |txt x=>
  obtain ⟨t,o,e,_,d⟩:=st
  exact ⟨o,e,fun v z=>by rw [d] at z;cases z⟩
section
variable {X:Cx} {pins:List (Addr×Obj)} {σ:L2.St} {H:Hp} {s:Shared}
end
def ZipTn (N:Nat) (c d:Sc) (xs ys:List V) (i:Nat) (h:Heap):Prop:=
 i≤min xs.length ys.length∧IsZip h (N+4) (N+2) (N+3) .none∧IsTupOf2 h (N+2) (.ref N) (.ref (N+1))∧(∃x y,IsTupOf2 h (N+3) x y)∧c.it h N i∧d.it h (N+1) i
theorem ZipTn.lt {N:Nat} {c d:Sc} {xs ys:List V} {i:Nat} {h:Heap} (st:ZipTn N c d xs ys i h):N+4<h.objs.size:=Heap.lt_size st.2.1
section
variable {X:Cx} {K:oB}
end
section
variable {X:Cx} {K:oB}
end
section
variable {β γ:Type} {env e:Sl} {R:Option β} {ms:MA} {K:List PyData→Sl→Option β}
end
end Cm
namespace Cm
open PySem PySem.Spec PyProof.Rows L2
section
variable {X:Cx} {pins:List (Addr×Obj)} {σ:L2.St} {H:Hp} {s:Shared} {A:Around} {E:Value→Shared→Prop} {a b:Addr} {kvs more:List (Key×V)}
end
section
variable {X:Cx} {K:oB} {B:Fb} {env:Sl} {σ:L2.St} {Hk H:Hp}
end
section
variable {β:Type} {i:Nat} {env e:Sl} {R:Option β} {me:ME} {K:Res→Sl→Option β}
end
section
variable {α β γ δ ε ζ η θ ι:Type}
end
section
variable {K:oB}
end
section
variable {K:oB}
end
end Cm
namespace Cm
open PySem L2
def zK4 (env:Sl) (M:List MC):Sl:=env.set (env.length - 1) (.sto M)
section
variable {X:Cx} {K:oB} {B:Fb} {env env':Sl} {σ:L2.St} {Hk Hk':Kn} {H H':Hp} {M:List MC}
theorem HasSto.lt (h:HasSto env M):env.length - 1<env.length:=(oE.mp h).1
theorem HasSto.put (h:HasSto env M) (M':List MC):HasSto (zK4 env M') M':=by
 unfold HasSto zK4;rw [oK,oM h.lt]
theorem HasSto.sto (h:HasSto env M):sto env=M:=by
 unfold Cm.sto HasSto at*
 rw [h]
theorem HasSto.set {i:Nat} {s:Slot} (h:HasSto env M) (hi:i≠env.length - 1):HasSto (env.set i s) M:=by
 unfold HasSto at*
 rw [oK,oH hi];exact h
theorem HasSto.ne {i:Nat} {s:Slot} (h:HasSto env M) (hs:env[i]?=some s) (hm:∀M,s≠.sto M):i≠env.length - 1:=fun e=>by
 unfold HasSto at h;rw [e,h] at hs
 exact hm M (oG hs).symm
def Cell.mc:Cell→MC
 |.lst ds=>.lst (ds.map .dat)
 |.dct es=>.dct (es.map fun p=>(p.1,.dat p.2))
theorem zG1:∀{vs:List V} {ds:List PyData},DvAll K Hk vs ds→PvAll K Hk vs (ds.map .dat)
 |_,_,.nil=>.nil
 |_,_,.cons h1 h2=>.cons (.dat h1) (zG1 h2)
theorem zId:∀{vs:List (Key×V)} {ds:List (PyData×PyData)},DvKv K Hk vs ds→PvKv K Hk vs (ds.map fun p=>(p.1,.dat p.2))
 |_,_,.nil=>.nil
 |_,_,.cons h1 h2=>.cons (.dat h1) (zId h2)
theorem CellAt.mc {a:Addr} {c:Cell} (h:CellAt K Hk H a c):CellM K Hk H a c.mc∧c.mc.live:=by
 cases c with
 |lst ds=>
  obtain ⟨vs,h1,h2⟩:=h
  exact ⟨⟨vs,h1,zG1 h2⟩,trivial⟩
 |dct ds=>
  obtain ⟨vs,h1,h2⟩:=h
  exact ⟨⟨vs,h1,zId h2⟩,trivial⟩
end
end Cm
namespace Cm
open PySem L2
theorem _root_.L2.PE.or {X:Cx} {e:Expr} {t1 t2:TE} (h1:PE X e t1) (h2:PE X e t2):PE X e fun σ H Q=>t1 σ H Q∨t2 σ H Q:=⟨fun pins s σ H Q I q=>q.elim (h1.run pins s σ H Q I) (h2.run pins s σ H Q I)⟩
def zMV (es:List (PyData×PV)) (k:Key):Option PV:=(es.find? fun p=>decide (zKu p.1=some k)).map (·.2)
section
variable {X:Cx} {K:oB} {B:Fb} {env env':Sl} {σ:L2.St} {Hk Hk':Kn} {H H':Hp}
theorem PvAll.len:∀{vs:List V} {ps:List PV},PvAll K Hk vs ps→vs.length=ps.length
 |_,_,.nil=>rfl
 |_,_,.cons _ h=>by
  have:=PvAll.len h
  simp [this]
theorem PvAll.get:∀{vs:List V} {ps:List PV},PvAll K Hk vs ps→∀(i:Nat) (p:PV),ps[i]?=some p→∃v,vs[i]?=some v∧PvOk K Hk v p
 |_,_,.nil,i,p,h=>by simp at h
 |_,_,.cons h1 h2,0,p,h=>by
  simp at h
  subst h;exact ⟨_,rfl,h1⟩
 |_,_,.cons h1 h2,i+1,p,h=>by
  obtain ⟨v,e,q⟩:=PvAll.get h2 i p (by simpa using h)
  exact ⟨v,by simpa using e,q⟩
theorem PvAll.append:∀{vs ws:List V} {ps qs:List PV},PvAll K Hk vs ps→PvAll K Hk ws qs→PvAll K Hk (vs++ws) (ps++qs)
 |_,_,_,_,.nil,h=>h
 |_,_,_,_,.cons h1 h2,h=>.cons h1 (PvAll.append h2 h)
theorem PvAll.set {v:V} {p:PV} (q:PvOk K Hk v p):∀{vs:List V} {ps:List PV} (i:Nat),PvAll K Hk vs ps→PvAll K Hk (vs.set i v) (ps.set i p)
 |_,_,_,.nil=>.nil
 |_,_,0,.cons _ h2=>.cons q h2
 |_,_,i+1,.cons h1 h2=>.cons h1 (PvAll.set q i h2)
theorem PvAll.take:∀{vs:List V} {ps:List PV} (n:Nat),PvAll K Hk vs ps→PvAll K Hk (vs.take n) (ps.take n)
 |_,_,0,_=>.nil
 |_,_,_+1,.nil=>.nil
 |_,_,n+1,.cons h1 h2=>.cons h1 (PvAll.take n h2)
theorem PvAll.drop:∀{vs:List V} {ps:List PV} (n:Nat),PvAll K Hk vs ps→PvAll K Hk (vs.drop n) (ps.drop n)
 |_,_,0,h=>h
 |_,_,_+1,.nil=>.nil
 |_,_,n+1,.cons h1 h2=>PvAll.drop n h2
theorem PvAll.rev:∀{vs:List V} {ps:List PV},PvAll K Hk vs ps→PvAll K Hk vs.reverse ps.reverse
 |_,_,.nil=>.nil
 |_,_,.cons h1 h2=>by
  rw [List.reverse_cons,List.reverse_cons];exact PvAll.append (PvAll.rev h2) (.cons h1 .nil)
def PV.ix (M:List MC) (x:PV) (i:Int):Option PV:=match x with
 |.tup ps=>atI ps i
 |.dat (.list ds)=>(atI ds i).map .dat
 |.dat (.tuple ds)=>(atI ds i).map .dat
 |.dat _=>none
 |.ref n=>match M[n]? with
  |some (.lst ps)=>atI ps i
  |some (.kn (.lst ps))=>atI ps i
  |_=>none
def PV.dx (M:List MC) (x:PV) (k:Key):Option (Option PV):=match x with
 |.dat (.dict es)=>some ((dGet es k).map .dat)
 |.ref n=>match M[n]? with
  |some (.dct es)=>some (zMV es k)
  |some (.kn (.dct es))=>some (zMV es k)
  |some (.lk es)=>some ((dGet es k).map .dat)
  |_=>none
 |_=>none
end
end Cm
namespace Cm
open PySem L2
section
variable {X:Cx} {K:oB} {B:Fb} {env env':Sl} {σ:L2.St} {Hk Hk':Kn} {H H':Hp}
open Classical in
noncomputable def tpK (Hk H H3:Hp):Hp:=fun a=>if Hk a≠none then Hk a else if H a=none then (match H3 a with
 |some (.tup xs)=>some (.tup xs)
 |some (.frz u (.tup xs))=>some (.frz u (.tup xs))
 |_=>none) else none
mutual
theorem zML {Hk3 H3:Hp} (e:Same Hk3 H3) (s:Same Hk Hk3) (hn:∀a,Hk3 a≠none→Hk a=none→H a=none∨∃o,H3 a=some o∧(∀xs,o≠.tup xs)∧∀u xs,o≠.frz u (.tup xs)):∀{v:V} {d:PyData},Dv K Hk3 v d→noL d=true→Dv K (tpK Hk H H3) v d
 |_,_,.non,_=>.non
 |_,_,.bl b,_=>.bl b
 |_,_,.int i,_=>.int i
 |_,_,.str x,_=>.str x
 |_,_,.lst _ _,h=>by simp [noL] at h
 |_,_,.dct _ _,h=>by simp [noL] at h
 |_,_,.tup (a:=a) h q,hl=>by
  refine .tup ?_ (tpK_dvs e s hn q (by simpa [noL] using hl))
  rcases h with (h|⟨u,h⟩)|h
  ·refine .inl (.inl ?_)
   unfold tpK;by_cases hk:Hk a=none
   ·rcases hn _ (zAO h) hk with z|⟨o,z1,z2,_⟩
    ·rw [if_neg (fun y=>y hk),if_pos z,e _ _ h]
    ·rw [e _ _ h] at z1
     exact absurd (oG z1).symm (z2 _)
   ·rw [if_pos hk]
    obtain ⟨o,ho⟩:=Option.ne_none_iff_exists'.mp hk
    rw [ho,←s _ _ ho,h]
  ·refine .inl (.inr ⟨u,?_⟩)
   unfold tpK;by_cases hk:Hk a=none
   ·rcases hn _ (zAO h) hk with z|⟨o,z1,_,z2⟩
    ·rw [if_neg (fun y=>y hk),if_pos z,e _ _ h]
    ·rw [e _ _ h] at z1
     exact absurd (oG z1).symm (z2 _ _)
   ·rw [if_pos hk]
    obtain ⟨o,ho⟩:=Option.ne_none_iff_exists'.mp hk
    rw [ho,←s _ _ ho,h]
  ·exact .inr h
theorem tpK_dvs {Hk3 H3:Hp} (e:Same Hk3 H3) (s:Same Hk Hk3) (hn:∀a,Hk3 a≠none→Hk a=none→H a=none∨∃o,H3 a=some o∧(∀xs,o≠.tup xs)∧∀u xs,o≠.frz u (.tup xs)):∀{vs:List V} {ds:List PyData},DvAll K Hk3 vs ds→noLs ds=true→DvAll K (tpK Hk H H3) vs ds
 |_,_,.nil,_=>.nil
 |_,_,.cons h1 h2,hl=>by
  simp only [noLs,oS] at hl
  exact .cons (zML e s hn h1 hl.1) (tpK_dvs e s hn h2 hl.2)
end
end
end Cm
namespace Cm
open PySem L2
section
variable {X:Cx} {K:oB} {B:Fb} {env env':Sl} {σ:L2.St} {Hk Hk':Kn} {H H':Hp}
theorem PvAll.dropLast:∀{vs:List V} {ps:List PV},PvAll K Hk vs ps→PvAll K Hk vs.dropLast ps.dropLast:=fun {vs ps} h=>by
 rw [List.dropLast_eq_take,List.dropLast_eq_take,h.len];exact h.take _
end
end Cm
namespace Cm
open PySem L2
abbrev MGP:=PV→Sl→Option Sl
abbrev Gd:=Sl→Prop
abbrev MIP:=Sl→Option ((List PV×Gd)×Sl)
section
variable {X:Cx} {K:oB} {B:Fb} {env env':Sl} {σ:L2.St} {Hk Hk':Kn} {H H':Hp} {js:List Nat} {g:MGP} {b:MS} {mi:MIP} {t:MT} {me:ME} {pos:Pos}
end
end Cm
namespace Cm
open PySem PySem.Spec PyProof.Rows L2
abbrev FMM:=List MC→Sl→Option (Res×Sl×List MC)
structure StoIn (K:oB) (Hk:Kn) (H:Hp) (M:List MC):Prop where
 cel:∀(n:Nat) c,M[n]?=some c→∃a,Hk.P n=some a∧CellM K Hk H a c∧(c.live→Hk a=none)
 inj:∀(n m:Nat) a,Hk.P n=some a→Hk.P m=some a→n=m
 top:∀(n:Nat),M.length≤n→Hk.P n=none
 pin:∀(n:Nat) a,Hk.P n=some a→H a≠none
def ArgM (K:oB) (Hk:Kn) (H:Hp) (s:Slot) (v:V):Prop:=match s with
 |.val d=>Dv K Hk v d
 |.pv p=>PvOk K Hk v p
 |.io _ c=>∃a,v=.ref a∧Hk a=none∧CellAt K Hk H a c∧∀(n:Nat),Hk.P n≠some a
 |.scr ns=>∃a,v=.ref a∧SqL K Hk a (ns.map V.int)
 |_=>False
structure ArgsM (K:oB) (Hk:Kn) (H:Hp) (ins:Sl) (vs:List V):Prop where
 len:ins.length=vs.length
 arg:∀(i:Nat) s v,ins[i]?=some s→vs[i]?=some v→ArgM K Hk H s v
 ix:∀(i k:Nat) c,ins[i]?=some (.io k c)→k=i
 sep:∀(i j k l:Nat) c c' a,ins[i]?=some (.io k c)→ins[j]?=some (.io l c')→vs[i]?=some (V.ref a)→vs[j]?=some (V.ref a)→i=j
structure PostM (K:oB) (Hk:Kn) (H:Hp) (ins:Sl) (vs:List V) (outs:Sl) (M':List MC) (Hk':Kn) (H':Hp):Prop where
 kn:KSame Hk Hk'
 ex:Same Hk' H'
 fr:∀a,Hk' a≠none→Hk a=none→H a=none
 kp:∀a o,H a=some o→(∀k,ioA ins vs k≠some a)→(∀n,Hk.P n=some a→Hk a≠none)→H' a=some o
 io:∀k a,ioA ins vs k=some a→∃c',outs[k]?=some (.io k c')∧Hk' a=none∧CellAt K Hk' H' a c'∧∀(n:Nat),Hk'.P n≠some a
 sto:StoIn K Hk' H' M'
 new:∀n a,Hk'.P n=some a→Hk.P n=none→Hk' a=none→H a=none
 old:∀n a,Hk.P n=some a→Hk a=none→Hk' a=none
section
variable {P:Program} {w:World} {K:oB} {mg:Str→Option Value} {base:Heap}
theorem ArgsM.rel {Hk:Kn} {H:Hp} {ins:Sl} {vs:List V} {N:List Str} {M:List MC} (A:ArgsM K Hk H ins vs) (S:StoIn K Hk H M) (s:Same Hk H) (hl:vs.length<N.length):
  Cm.Rel K ⟨Hk,H,ioA ins vs,fun _=>none,fun a=>∃n,Hk.P n=some a∧Hk a=none⟩ ((ins++List.replicate (N.length - ins.length) Slot.no).set (N.length - 1) (.sto M)) (L2.start N vs) Hk H:=by
 have hA:∀a,(∃k,ioA ins vs k=some a)→H a≠none∧Hk a=none∧∀(n:Nat),Hk.P n≠some a:=fun a h=>by
  obtain ⟨k,h⟩:=h
  obtain ⟨l,c,e1,e2⟩:=zFD h
  obtain ⟨b,e3,q1,q2,q3⟩:=A.arg k _ _ e1 e2
  cases e3
  obtain ⟨o,ho⟩:=q2.there
  exact ⟨zAO ho,q1,q3⟩
 have io:∀a,(⟨Hk,H,ioA ins vs,fun _=>none,fun a=>∃n,Hk.P n=some a∧Hk a=none⟩:Fb).io a→H a≠none∧Hk a=none:=fun a h=>by
  rcases h with h|⟨n,h1,h2⟩
  ·exact ⟨(hA a h).1,(hA a h).2.1⟩
  ·exact ⟨S.pin n a h1,h2⟩
 have hlen:(ins++List.replicate (N.length - ins.length) Slot.no).length=N.length:=by
  rw [oI,oT]
  have:=A.len
  omega
 have cut:∀(i:Nat) s,((ins++List.replicate (N.length - ins.length) Slot.no).set (N.length - 1) (.sto M))[i]?=some s→(ins[i]?=some s∧i<vs.length)∨s=.no∨(s=.sto M∧i=N.length - 1):=fun i s h=>by
  rcases zAv h with ⟨h1,h2⟩|⟨_,h⟩
  ·exact .inr (.inr ⟨h2,h1⟩)
  ·by_cases hi:i<ins.length
   ·rw [oL hi] at h
    exact .inl ⟨h,by rw [←A.len];exact hi⟩
   ·rw [oN (by omega),List.getElem?_replicate] at h
    split at h
    ·cases h
     exact .inr (.inl rfl)
    ·cases h
 have nsto:∀(i:Nat) M1,ins[i]?=some (.sto M1)→i<vs.length→False:=fun i M1 h hi=>by
  have:=A.arg i _ _ h (oF hi)
  exact this
 refine ⟨s,.refl _,fun a h1 h2=>absurd h2 h1,fun a o h _=>h,io,fun a h=>(io a h).1,?_,fun i s h=>?_,fun i j s t a h1 h2 m1 m2 e1 e2=>?_,fun M1 h=>?_,fun n a h=>⟨S.pin n a h,fun z=>.inr (.inr ⟨n,h,z⟩)⟩,fun i s a n hi ms e1=>?_⟩
 ·rw [oK,hlen,zDX (by omega)]
 ·have hlt:i<(L2.start N vs).length:=by
   have:=(oE.mp h).1
   rw [oK,hlen] at this
   rw [zDX (by omega)]
   exact this
  rcases cut i s h with ⟨q,hi⟩|rfl|⟨rfl,_⟩
  ·have hv:vs[i]?=some vs[i]:=oF hi
   refine ⟨some vs[i],zB8 hv,?_⟩
   have z:=A.arg i s _ q hv
   cases s with
   |no=>trivial
   |val d=>exact ⟨_,rfl,z⟩
   |pv p=>exact ⟨_,rfl,z⟩
   |own c=>cases z
   |scr ns=>
    obtain ⟨a,e1,q1⟩:=z
    exact ⟨a,by rw [e1],q1⟩
   |pin a=>cases z
   |sto M=>cases z
   |io k c=>
    obtain ⟨a,e1,q1,q2,q3⟩:=z
    refine ⟨a,by rw [e1],q1,?_,q2⟩
    have:=A.ix i k c q
    subst this;exact zJx q (by rw [hv,e1])
  ·exact ⟨_,oF hlt,trivial⟩
  ·exact ⟨_,oF hlt,trivial⟩
 ·rcases cut i s h1 with ⟨q1,hi⟩|rfl|⟨rfl,_⟩
  ·rcases cut j t h2 with ⟨q2,hj⟩|rfl|⟨rfl,_⟩
   ·have v1:vs[i]?=some vs[i]:=oF hi
    have v2:vs[j]?=some vs[j]:=oF hj
    have g1:=zB8 (N:=N) v1
    have g2:=zB8 (N:=N) v2
    rw [e1] at g1
    rw [e2] at g2
    have w1:vs[i]?=some (.ref a):=by rw [v1];exact congrArg some (oG (oG g1)).symm
    have w2:vs[j]?=some (.ref a):=by rw [v2];exact congrArg some (oG (oG g2)).symm
    cases s with
    |own c=>exact False.elim (A.arg i _ _ q1 w1)
    |io k c=>
     cases t with
     |own c=>exact False.elim (A.arg j _ _ q2 w2)
     |io l c'=>exact A.sep i j k l c c' a q1 q2 w1 w2
     |_=>cases m2
    |_=>cases m1
   ·cases m2
   ·cases m2
  ·cases m1
  ·cases m1
 ·unfold HasSto at h
  rw [oK,hlen,oM (by rw [hlen];omega)] at h
  cases h
  exact ⟨S.cel,S.inj,S.top⟩
 ·rcases cut i s hi with ⟨q1,hi⟩|rfl|⟨rfl,_⟩
  ·have v1:vs[i]?=some vs[i]:=oF hi
   have g1:=zB8 (N:=N) v1
   rw [e1] at g1
   have w1:vs[i]?=some (.ref a):=by rw [v1];exact congrArg some (oG (oG g1)).symm
   cases s with
   |own c=>exact False.elim (A.arg i _ _ q1 w1)
   |io k c=>
    obtain ⟨b,e,_,_,q3⟩:=A.arg i _ _ q1 w1
    cases e
    exact q3 n
   |_=>cases ms
  ·cases ms
  ·cases ms
end
section
variable {X:Cx} {K:oB} {B:Fb} {env e2:Sl} {σ:L2.St} {Hk:Kn} {H:Hp}
end
end Cm
namespace Cm
open PySem PySem.Spec PyProof.Rows L2
section
variable {X:Cx} {K:oB}
end
section
variable {β γ:Type} {env e:Sl} {R:Option β} {m:ME} {K:Res→Sl→Option β}
end
section
variable {X:Cx} {K:oB}
end
section
variable {β γ:Type} {env e:Sl} {R:Option β} {ms:MA} {K:List PyData→Sl→Option β}
end
def zLP:MS:=fun _=>none
theorem zIW {X:Cx} {st:Stmt}:VS X st zLP:=fun W _=>⟨fun pins s σ H D I q=>by
 obtain ⟨_,_,_,_,_,_,hm,_⟩:=q
 cases hm⟩
section
variable {α β γ:Type} {e:Sl} {K:List PyData→Sl→Option β} {ea:α→PyData} {z:Option α}
end
end Cm
namespace Cm
open PySem L2
section
variable {β γ τ:Type} {env e e2:Sl} {R:Option β} {m ma mb me mo mi:ME} {ms:MA} {i j:Nat} {M:List MC}
end
section
variable {α β γ ρ σ τ:Type} {E:σ→Sl} {oR:ρ→Res} {eR:ρ→Sl} {g:MGP} {b:MS} {env e e2:Sl} {R:Option β}
end
section
variable {β γ τ:Type} {env e:Sl} {R:Option β} {ms:MA} {fm:FMM} {io:Option Nat}
end
section
end
end Cm
namespace Cm
open PySem L2
section
variable {α β γ σ τ:Type} {g:MGP} {t:MT} {me:ME} {vs:List Nat} {env e e1:Sl} {E:σ→Sl} {R:Option β}
end
end Cm
namespace Cm
open PySem PySem.Spec PyProof.Rows L2
section
variable {P:Program} {w:World} {K:oB} {mg:Str→Option Value} {base:Heap}
end
end Cm
namespace Cm
open PySem L2
section
variable {σ:Type} {E:σ→Sl} {g:MGP} {b:MS}
end
end Cm
namespace Cm
open PySem L2
end Cm
namespace Cm
open PySem L2
section
variable {β:Type} {e:Sl} {R:Option β}
end
end Cm
namespace Cm
open PySem PySem.Spec PyProof.Rows L2
end Cm
namespace Cm
open PySem PySem.Spec PyProof.Rows L2
open Sem (wp)
section
variable {prog:Program} {w:World} {A:Around} {E:Value→Shared→Prop}
def LsF (h:Heap) (a:Addr) (its:List Value):Prop:=∃n,h.get? a=some {cls:=.type "list",data:=.seq its.toArray n}
theorem LsF.keeps {h h':Heap} {a:Addr} {its:List Value} (x:LsF h a its) (k:∀o,h.get? a=some o→h'.get? a=some o):LsF h' a its:=let ⟨n,e⟩:=x;⟨n,k _ e⟩
section
variable {R:Result→Shared→Prop} {I:Addr} {fp wr:List Addr} {G:Array GenState→Array GenState→Prop} {n:Nat} {P:Nat→Value→Prop} {St:Nat→Shared→Prop}
end
end
inductive Al2 {α β:Type} (R:α→β→Prop):List α→List β→Prop
 |nil:Al2 R [] []
 |cons {x:α} {y:β} {xs:List α} {ys:List β}:R x y→Al2 R xs ys→Al2 R (x::xs) (y::ys)
section
variable {X:Cx}
end
section
variable {K:oB}
end
section
variable {β γ:Type} {ms:MA} {env e:Sl} {rs:List Res} {K:Res→Sl→Option β} {R:Option β}
end
end Cm
namespace PySem.W
open PySem PySem.Spec PyProof.Rows
section
variable {prog:Program} {w:World} {A:Around} {E:Value→Shared→Prop} {s:Shared}
end
end PySem.W
namespace Cm
open PySem L2
section
variable {X:Cx} {K:oB}
end
section
variable {β γ:Type} {ms:MA} {env e:Sl} {rs:List Res} {K:Res→Sl→Option β} {R:Option β}
end
section
variable {K:oB}
def fPop:List PyData→List PyData→Option (List PyData×PyData)
 |ds,[]=>(ds[ds.length - 1]?).map fun d=>(ds.dropLast,d)
 |_,_=>none
theorem DvAll.init {H:Hp} {vs:List V} {ds:List PyData} (h:DvAll K H vs ds):DvAll K H vs.dropLast ds.dropLast:=by
 rw [List.dropLast_eq_take,List.dropLast_eq_take,h.len];exact h.take _
theorem zM0:MutD K rPop fPop:=by
 intro Hk H l vs ws ds es ds' ret Q e hl hd he h q
 unfold fPop at h
 split at h
 ·obtain ⟨d,h1,h2⟩:=oD.mp h
  cases h2
  cases he
  obtain ⟨v,q1,q2⟩:=hd.get _ _ h1
  exact ⟨l,vs,v,rfl,rfl,hl,by rw [hd.len];exact q1,q _ _ hd.init q2⟩
 ·cases h
end
def zJe {α:Type} (l:List α):Option (α×List α):=(l[l.length - 1]?).map fun d=>(d,l.dropLast)
theorem zMp {α:Type} {e:α→PyData} {l:List α}:fPop (l.map e) []=(zJe l).map (fun z=>(z.2.map e,e z.1)):=by
 unfold zJe;show Option.map (fun d=>((l.map e).dropLast,d)) ((l.map e)[(l.map e).length - 1]?)=_
 rw [oJ,oO,Option.map_map,Option.map_map];cases l[l.length - 1]? with
 |none=>rfl
 |some d=>simp [List.map_dropLast]
end Cm
namespace Cm
open PySem L2
structure Dec {α:Type} (e:α→PyData) where
 f:PyData→Option α
 snd:∀d x,f d=some x→e x=d
 cmp:∀x,f (e x)=some x
section
variable {α β γ δ ε:Type} {a:α→PyData} {b:β→PyData} {c:γ→PyData} {d:δ→PyData} {e:ε→PyData}
end
section
variable {X:Cx} {K:oB} {α β γ τ:Type} {js is:List Nat}
end
section
variable {β γ:Type} {m:ME} {env e e2:Sl} {R:Option β}
end
section
variable {X:Cx} {K:oB}
end
end Cm
namespace Cm
open PySem PySem.Spec PyProof.Rows L2
section
variable {P:Program} {w:World} {A:Around} {E:Value→Shared→Prop} {s:Shared} {a:Addr} {es:Array (Int×Value)} {t:SetTable} {ps:List (Str×Tok)}
abbrev cellT (w:World) (p:Str×Tok):Int×Value:=(hashStr w p.1,.str p.1 p.2)
structure TabT (w:World) (es:Array (Int×Value)) (t:SetTable) (ps:List (Str×Tok)):Prop where
 cells:es.toList.Perm (ps.map (cellT w))
 fits:t.fits es.size=true
 ris:Ris t.place.toList
 led:w.params.followText "set-order"=true∨t.led=true
theorem TabT.size (R:TabT w es t ps):es.size=ps.length:=by
 have:=R.cells.length_eq
 rwa [Array.length_toList,oJ] at this
theorem TabT.lay (R:TabT w es t ps) (p:Str×Tok):TabT w (layNew t es (hashStr w p.1) (.str p.1 p.2)).1 (layNew t es (hashStr w p.1) (.str p.1 p.2)).2.1 (ps++[p]) where
 cells:=by
  refine (layNew_perm t es _ _).trans ?_;rw [Array.toList_push,List.map_append];exact R.cells.append_right _
 fits:=layNew_fits ..
 ris:=layNew_ris _ _ _ _ R.ris
 led:=R.led.imp id fun z=>(layNew_led ..).trans z
def SetT (w:World) (h:Heap) (a:Addr) (ps:List (Str×Tok)):Prop:=(ps.map Prod.fst).Nodup∧ps.length<scanBound∧∃o es ep t,h.get? a=some o∧o.ExactSet∧o.data=.set es ep t∧TabT w es t ps
theorem SetT.at {h h':Heap} (R:SetT w h a ps) (k:∀o,h.get? a=some o→h'.get? a=some o):SetT w h' a ps:=by
 obtain ⟨nd,hb,o,es,ep,t,ho,r⟩:=R
 exact ⟨nd,hb,o,es,ep,t,k o ho,r⟩
end
section
variable {X:Cx}
end
section
variable {X:Cx} {K:oB}
end
section
variable {β γ:Type} {env e:Sl} {R:Option β} {m:ME} {K:Res→Sl→Option β}
end
section
variable {X:Cx} {K:oB}
end
end Cm
namespace Cm
open PySem PySem.Calls PyProof.Rows L2
open PySem.W (EachIs SortsAt KeyedOut KeepsBut AllAlike Sortable alike sortVals keyH_end keyedOut_each bound_map copyHeap copyHeap_at copyHeap_old sorted_of_sort)
section
variable {P:Program} {w:World} {A:Around} {E:Value→Shared→Prop} {s:Shared} {a kS N:Addr} {e1:Nat} {R:PySem.Fin→Shared→Prop} {v:Value} {d:PyData}
def Low (N:Addr) (h:Heap) (v:Value) (d:PyData):Prop:=∃as,Reads h v d as∧∀x∈as,x<N
theorem Low.keeps {h h':Heap} (l:Low N h v d) (k:∀b o,h.get? b=some o→h'.get? b=some o):Low N h' v d:=l.imp fun as q=>⟨Reads.keeps k q.1,q.2⟩
theorem Low.more {g:Heap} {keys:Array Value} {e:Nat} {x:Value} (lies:g.get? kS=some (seqObj "list" keys e)) (hN:N≤kS) (al:alike d d=true) (l:Low N g v d):Low N (g.update kS (Obj.mapSeq (·.push x))) v d:=by
 obtain ⟨as,r,q⟩:=l
 have same:=Heap.SameBut.update g kS (Obj.mapSeq (·.push x))
 refine ⟨as,PySem.W.Reads.keepBut (a:=kS) (fun b o hb e=>(same.2 b hb).trans e) (fun o e=>?_) d v as al r (fun h=>?_),q⟩
 ·rw [lies] at e
  cases e
  rfl
 ·exact absurd (Nat.lt_of_lt_of_le (q kS h) hN) (Nat.lt_irrefl _)
end
end Cm
namespace Cm
open PySem PySem.Calls PyProof.Rows L2
mutual
theorem zGv {h:Heap}:∀(d:PyData) {v:Value} {as:List Addr},Reads h v d as→∀x∈as,x<h.objs.size
 |.none,_,_,r,x,hx=>by cases r;cases hx
 |.bool _,_,_,r,x,hx=>by cases r;cases hx
 |.int _,_,_,r,x,hx=>by cases r;cases hx
 |.str _,_,_,r,x,hx=>by cases r;cases hx
 |.list ds,_,_,r,x,hx=>by
  cases r with
  |list h1 h2 h3 h4=>
   rcases OB.mp hx with rfl|hx
   ·exact Heap.lt_size h1
   ·exact readsAll_in ds h4 x hx
 |.tuple ds,_,_,r,x,hx=>by
  cases r with
  |tuple h1 h2 h3 h4=>exact readsAll_in ds h4 x hx
 |.dict es,_,_,r,x,hx=>by
  cases r with
  |@dict a o es' n kvs as bs h1 h2 h3 h4 h5=>
   have k1:=readsAll_inK es h4
   have k2:=readsAll_inV es h5
   rcases oV.mp hx with hx|hx
   ·rcases OB.mp hx with rfl|hx
    ·exact Heap.lt_size h1
    ·exact k1 x hx
   ·exact k2 x hx
theorem readsAll_in {h:Heap}:∀(ds:List PyData) {vs:List Value} {as:List Addr},ReadsAll h vs ds as→∀x∈as,x<h.objs.size
 |[],_,_,r,x,hx=>by cases r;cases hx
 |d::ds,_,_,r,x,hx=>by
  cases r with
  |cons r1 r2=>
   rcases oV.mp hx with hx|hx
   ·exact zGv d r1 x hx
   ·exact readsAll_in ds r2 x hx
theorem readsAll_inK {h:Heap}:∀(ds:List (PyData×PyData)) {vs:List Value} {as:List Addr},ReadsAll h vs (ds.map (·.1)) as→∀x∈as,x<h.objs.size
 |[],_,_,r,x,hx=>by cases r;cases hx
 |(k,d)::ds,_,_,r,x,hx=>by
  cases r with
  |cons r1 r2=>
   rcases oV.mp hx with hx|hx
   ·exact zGv k r1 x hx
   ·exact readsAll_inK ds r2 x hx
theorem readsAll_inV {h:Heap}:∀(ds:List (PyData×PyData)) {vs:List Value} {as:List Addr},ReadsAll h vs (ds.map (·.2)) as→∀x∈as,x<h.objs.size
 |[],_,_,r,x,hx=>by cases r;cases hx
 |(k,d)::ds,_,_,r,x,hx=>by
  cases r with
  |cons r1 r2=>
   rcases oV.mp hx with hx|hx
   ·exact zGv d r1 x hx
   ·exact readsAll_inV ds r2 x hx
end
section
variable {X:Cx} {K:oB} {B:Fb} {env:Sl} {σ:L2.St} {Hk H:Hp}
end
section
variable {α:Type}
end
end Cm
namespace Cm
open PySem L2
section
variable {β:Type} {env:Sl} {R:Option β} {b:MS} {K:Fl→Sl→Option β}
end
end Cm
namespace Cm
open PySem L2
mutual
def noDc:PyData→Bool
 |.dict _=>false
 |.list ds=>noDcs ds
 |.tuple ds=>noDcs ds
 |_=>true
def noDcs:List PyData→Bool
 |[]=>true
 |d::ds=>noDc d&&noDcs ds
end
def Kn.but (Hk3 Hk:Kn) (a:Addr):Kn:=⟨fun b=>if b=a then none else Hk3.k b,Hk.P⟩
theorem zK6 {Hk3 Hk:Kn} {a b:Addr} {u:HO} {kvs:List (Key×V)} (ha:Rd Hk3.k a (.dK kvs)) (h:Rd Hk3.k b u) (hu:(∃xs,u=.lst xs)∨∃xs,u=.tup xs):Rd (Hk3.but Hk a).k b u:=by
 have ne:b≠a:=by
  rintro rfl
  rcases hu with ⟨xs,rfl⟩|⟨xs,rfl⟩<;>rcases ha with ha|⟨o,ha⟩<;>rcases h with h|⟨o',h⟩<;>rw [ha] at h<;>cases h
 have e:(Hk3.but Hk a).k b=Hk3.k b:=if_neg ne
 unfold Rd;rw [e];exact h
section
variable {X:Cx} {K:oB} {Hk3 Hk:Kn} {a:Addr} {kvs:List (Key×V)}
mutual
theorem zNp (ha:Rd Hk3.k a (.dK kvs)):∀{v:V} {d:PyData},noDc d=true→Dv K Hk3 v d→Dv K (Hk3.but Hk a) v d
 |_,_,_,.non=>.non
 |_,_,_,.bl b=>.bl b
 |_,_,_,.int i=>.int i
 |_,_,_,.str x=>.str x
 |_,.list ds,h,.lst (a:=l) (xs:=xs) q1 q2=>by
  have h:noDcs ds=true:=by simpa [noDc] using h
  have q3:Rd (Hk3.but Hk a).k l (.lst xs):=zK6 ha (.inl q1) (.inl ⟨_,rfl⟩)
  have q4:(Hk3.but Hk a).k l=some (.lst xs):=by
   rcases q3 with q3|⟨o,q3⟩
   ·exact q3
   ·exfalso
    by_cases e:l=a
    ·have:(Hk3.but Hk a).k l=none:=if_pos e
     rw [this] at q3
     cases q3
    ·have:(Hk3.but Hk a).k l=Hk3.k l:=if_neg e
     rw [this,q1] at q3
     cases q3
  exact .lst q4 (dvAll_but ha h q2)
 |_,.tuple ds,h,.tup q1 q2=>by
  have h:noDcs ds=true:=by simpa [noDc] using h
  refine .tup ?_ (dvAll_but ha h q2)
  rcases q1 with q1|q1
  ·exact .inl (zK6 ha q1 (.inr ⟨_,rfl⟩))
  ·exact .inr q1
 |_,_,h,.dct _ _=>by simp [noDc] at h
theorem dvAll_but (ha:Rd Hk3.k a (.dK kvs)):∀{vs:List V} {ds:List PyData},noDcs ds=true→DvAll K Hk3 vs ds→DvAll K (Hk3.but Hk a) vs ds
 |_,_,_,.nil=>.nil
 |_,d::ds,h,.cons h1 h2=>by
  have h:noDc d=true∧noDcs ds=true:=by simpa [noDcs] using h
  exact .cons (zNp ha h.1 h1) (dvAll_but ha h.2 h2)
end
end
section
variable {X:Cx} {K:oB}
end
section
variable {β γ:Type} {env e e2:Sl} {R:Option β} {m:ME} {K:Res→Sl→Option β} {i:Nat}
end
end Cm
namespace Cm
open PySem L2
def PV.fld (C:Str) (M:List MC) (x:PV) (f:Str):Option PV:=match x with
 |.ref n=>match M[n]? with
  |some (.ins D fs)=>if D=C then fs.lookup f else none
  |some (.kn (.ins D fs))=>if D=C then fs.lookup f else none
  |_=>none
 |_=>none
def PV.deepK (M:List MC):Nat→PV→Option PyData
 |_,.dat d=>some d
 |0,_=>none
 |f+1,.tup ps=>(zFm (PV.deepK M f) ps).map .tuple
 |f+1,.ref n=>match M[n]? with
  |some (.kn (.lst ps))=>(zFm (PV.deepK M f) ps).map .list
  |some (.kn (.dct es))=>(zGV (PV.deepK M f) es).map .dict
  |some (.lk es)=>some (.dict es)
  |_=>none
section
variable {X:Cx} {K:oB} {B:Fb} {env env':Sl} {σ:L2.St} {Hk Hk':Kn} {H H':Hp}
theorem Rel.deepK (R:Rel K B env σ Hk H):∀(f:Nat) {p:PV} {v:V} {d:PyData},PvOk K Hk v p→p.deepK (sto env) f=some d→Dv K Hk v d
 |f,.dat d',v,d,h,e=>by
  have e:some d'=some d:=by cases f<;>exact e
  cases e
  cases h with
  |dat q=>exact q
 |0,.tup ps,v,d,h,e=>by cases e
 |0,.ref n,v,d,h,e=>by cases e
 |f+1,.tup ps,v,d,h,e=>by
  obtain ⟨ds,h3,rfl⟩:=oD.mp e
  cases h with
  |@tup a vs _ q1 q2=>exact .tup q1.sq (zEw (fun w g=>Rel.deepK R f w g) q2 h3)
 |f+1,.ref n,v,d,h,e=>by
  cases h with
  |@ref a _ q=>
   unfold PV.deepK at e;cases hc:(sto env)[n]? with
   |none=>simp only [hc] at e;cases e
   |some c=>
    obtain ⟨hS,b,g1,g2,g3⟩:=R.stoAt hc
    rw [q] at g1
    cases g1
    simp only [hc] at e
    clear hc
    cases c with
    |lk es=>
     cases e
     obtain ⟨od,kvs,h1,h2⟩:=g2
     exact .dct (.inr ⟨od,h1⟩) h2
    |kn c'=>
     cases c' with
     |lst ps=>
      obtain ⟨ds,h3,rfl⟩:=oD.mp e
      obtain ⟨vs,h4,q2⟩:=g2
      exact .lst h4 (zEw (fun w g=>Rel.deepK R f w g) q2 h3)
     |dct ps=>
      obtain ⟨ds,h3,rfl⟩:=oD.mp e
      obtain ⟨vs,h4,q2⟩:=g2
      exact .dct (.inl h4) (zIp (fun w g=>Rel.deepK R f w g) q2 h3)
     |_=>cases e
    |_=>cases e
structure Lkd (Hk:Kn) (H H':Hp) (L:Addr→Prop):Prop where
 out:∀x,¬L x→H' x=H x
 at_:∀x,L x→Hk x=none∧(∃n,Hk.P n=some x)∧∃od kvs,H x=some (.dK kvs)∧H' x=some (.frz od (.dK kvs))
theorem Lkd.same {L:Addr→Prop} (l:Lkd Hk H H' L) (e:Same Hk H):Same Hk H':=fun a o h=>by
 by_cases z:L a
 ·rw [(l.at_ a z).1] at h;cases h
 ·rw [l.out a z];exact e _ _ h
theorem Lkd.there {L:Addr→Prop} (l:Lkd Hk H H' L) {a:Addr} (h:H a≠none):H' a≠none:=by
 by_cases z:L a
 ·obtain ⟨_,_,od,kvs,_,w⟩:=l.at_ a z
  exact zAO w
 ·rw [l.out a z];exact h
end
end Cm
namespace Cm
open PySem L2
section
variable {X:Cx} {K:oB} {B:Fb} {env env':Sl} {σ:L2.St} {Hk Hk':Kn} {H H':Hp}
end
def isDP (M:List MC):PV→Bool
 |.dat (.dict _)=>true
 |.ref n=>match M[n]? with
  |some (.dct _)=>true
  |some (.kn (.dct _))=>true
  |some (.lk _)=>true
  |_=>false
 |_=>false
section
variable {X:Cx} {K:oB} {B:Fb} {env env':Sl} {σ:L2.St} {Hk Hk':Kn} {H H':Hp}
end
end Cm
namespace Cm
open PySem PySem.Spec PyProof.Rows L2
section
variable {X:Cx} {K:oB} {B:Fb} {env env':Sl} {σ:L2.St} {Hk Hk':Kn} {H H':Hp}
end
end Cm
namespace Cm
open PySem L2
section
variable {α β γ τ:Type} {a:α→PyData} {b:β→PyData}
end
section
variable {X:Cx} {K0:oB} {α β γ τ:Type} {env e:Sl} {R:Option β} {m ma mb mo mk mv mz:ME} {ms:MA} {M M':List MC}
end
structure Lent (M M':List MC):Prop where
 fld:∀C (x:PV) f,PV.fld C M' x f=PV.fld C M x f
 ix:∀(x:PV) i,PV.ix M' x i=PV.ix M x i
 dx:∀(x:PV) k,PV.dx M' x k=PV.dx M x k
 dp:∀(x:PV),isDP M' x=isDP M x
 deep:∀f (x:PV),PV.deepK M' f x=PV.deep M f x
section
variable {β γ τ:Type} {env e:Sl} {R:Option β} {m ma mb mo mk mv mz:ME} {M M':List MC}
end
end Cm
namespace Cm
open PySem L2
section
variable {X:Cx} {K0:oB} {α β γ τ:Type} {env e:Sl} {R:Option β} {m:ME} {M M':List MC}
end
end Cm
namespace Cm
open PySem L2
section
variable {X:Cx} {K0:oB} {α β γ τ:Type} {env e:Sl} {R:Option β} {m:ME} {M M':List MC}
end
end Cm
namespace Cm
open PySem PySem.Spec PyProof.Rows L2
section
variable {X:Cx} {K:oB}
end
end Cm
namespace Cm
open PySem L2
inductive PrsAllP (K:oB) (Hk:Kn):List (V×V)→List (PyData×PV)→Prop
 |nil:PrsAllP K Hk [] []
 |cons {v w:V} {k:PyData} {d:PV} {ps:List (V×V)} {es:List (PyData×PV)}:Dv K Hk v k→PvOk K Hk w d→PrsAllP K Hk ps es→PrsAllP K Hk ((v,w)::ps) ((k,d)::es)
section
variable {X:Cx} {K:oB} {B:Fb} {env env':Sl} {σ:L2.St} {Hk Hk':Kn} {H H':Hp}
end
end Cm
namespace Cm
open PySem L2
section
variable {α β γ τ:Type} {env e:Sl} {R:Option β} {m mo mk:ME} {M M':List MC} {l:List (ME×ME)}
end
end Cm
namespace Cm
open PySem PySem.Spec PyProof.Rows L2
section
variable {X:Cx} {K:oB}
end
section
variable {α β γ:Type} {env e:Sl} {R:Option β} {ms:MA} {K:List PyData→Sl→Option β}
end
end Cm
namespace Cm
open PySem L2
section
variable {X:Cx} {m:ME} {a:Expr}
end
section
variable {X:Cx} {mi:MI} {g:MG} {t:MT} {me:ME} {js:List Nat} {pos:Pos}
end
end Cm
namespace Cm
open PySem PySem.Calls PyProof.Rows L2
open PySem.W (EachIs SortsAt alike sortVals copyHeap sortingHeap keyToks)
def zL4:PyData→Int
 |.tuple (.int i::_)=>i
 |_=>0
structure Heads (ds:List PyData):Prop where
 hd:∀d∈ds,∃i r,d=.tuple (.int i::r)
 un:(ds.map zL4).Nodup
 self:∀d∈ds,alike d d=true
 lay:∀d∈ds,d.canLay0=true∧d.depth≤60
 len:ds.length≤100000
theorem Heads.inj {ds:List PyData} (h:Heads ds) {d d':PyData} (hd:d∈ds) (hd':d'∈ds) (e:zL4 d=zL4 d'):d=d':=by
 obtain ⟨i,hi,rfl⟩:=List.getElem_of_mem hd
 obtain ⟨j,hj,rfl⟩:=List.getElem_of_mem hd'
 have hn:=h.un
 rw [List.Nodup,List.pairwise_iff_getElem] at hn
 by_cases hij:i=j
 ·subst hij;rfl
 ·exfalso
  rcases Nat.lt_or_gt_of_ne hij with q|q
  ·exact hn i j (by simpa using hi) (by simpa using hj) q (by simpa using e)
  ·exact hn j i (by simpa using hj) (by simpa using hi) q (by simpa using e.symm)
section
variable {prog:Program} {w:World} {A:Around} {s:Shared}
end
section
variable {X:Cx} {K:oB} {B:Fb} {env:Sl} {σ:L2.St} {Hk H:Hp}
end
end Cm
namespace Cm
open PySem L2
section
variable {X:Cx} {K:oB} {B:Fb} {env env':Sl} {σ:L2.St} {Hk Hk':Kn} {H H':Hp}
end
section
variable {β γ:Type} {mo me:ME} {env e:Sl} {R:Option β} {M:List MC}
end
section
variable {K:oB}
end
section
variable {X:Cx} {K:oB} {B:Fb} {env env':Sl} {σ:L2.St} {Hk Hk':Kn} {H H':Hp}
end
section
variable {β γ:Type} {mo me:ME} {env e:Sl} {R:Option β}
end
section
variable {X:Cx} {K:oB} {js:List Nat}
end
section
variable {β γ τ:Type} {e:Sl}
end
end Cm
namespace Cm
open PySem L2
section
variable {ρ σ:Type}
variable {b:MS} {E:σ→Sl} {oR:ρ→Res} {eR:ρ→Sl}
end
section
variable {X:Cx} {K:oB} {ma mb:ME} {a b:Expr} {pos:Pos}
end
section
variable {β α:Type} {ma mb:ME} {env e:Sl} {K:Res→Sl→Option β} {R:Option β}
end
end Cm
namespace Cm
open PySem L2
section
variable {X:Cx} {K:oB} {m:ME} {ml mh:MO}
end
section
variable {β γ:Type} {m:ME} {ml mh:MO} {env e:Sl} {K:Res→Sl→Option β} {R:Option β}
end
section
variable {β γ τ:Type} {e:Sl}
end
section
variable {β γ σ τ:Type} {g:MGP} {t:MT} {me:ME} {vs:List Nat} {e:Sl} {E:σ→Sl}
end
section
variable {X:Cx} {mi:MI} {g:MG} {t:MT} {me:ME} {js:List Nat} {pos:Pos}
end
end Cm
namespace Cm
open PySem L2
section
variable {X:Cx} {K:oB} {σ:L2.St} {H:Hp} {R:It→Hp→Prop} {ms:MA}
end
section
variable {ms:MA} {env e:Sl} {β γ:Type} {R:Option β}
end
section
variable {X:Cx} {K:oB} {σ:L2.St} {H:Hp}
end
section
variable {env e:Sl} {β γ:Type} {R:Option β}
end
end Cm
namespace Cm
open PySem L2
section
variable {K:oB}
end
section
variable {X:Cx} {K:oB} {m:ME} {ml mh ms:MO}
end
section
variable {β γ:Type} {env e:Sl} {R:Option β} {m:ME} {ml mh ms:MO} {K:Res→Sl→Option β}
end
end Cm
namespace Cm
open PySem L2
section
open PySem.Spec PyProof.Rows HT
variable {prog:Program} {w:World} {A:Around} {E:Value→Shared→Prop} {s:Shared}
end
section
variable {X:Cx} {K:oB}
end
section
variable {β γ α:Type} {env e:Sl} {R:Option β} {m:ME} {ms:MO} {K:Res→Sl→Option β}
end
section
variable {β γ:Type} {env:Sl}
end
end Cm
namespace Cm
open PySem L2
section
variable {β γ τ:Type} {env:Sl}
end
end Cm
namespace Cm
open PySem PySem.Spec PyProof.Rows L2
section
variable {X:Cx} {pins:List (Addr×Obj)} {σ:L2.St} {H:Hp} {s:Shared}
end
section
variable {X:Cx} {K:oB} {B:Fb} {env:Sl} {σ:L2.St} {Hk:Kn} {H:Hp}
end
end Cm
namespace Cm
open PySem PySem.Spec PyProof.Rows L2
section
variable {P:Program} {w:World} {K:oB} {mg:Str→Option Value} {base:Heap}
end
section
variable {β γ:Type} {env e:Sl} {M:List MC} {m:ME} {kf:PyData→Option PyData} {j:Nat} {x:Str} {R:Option β}
end
section
variable {X:Cx} {ws:List Nat} {pos:Pos}
end
section
open He
structure TabH (K:oB) (h:Heap) (x:Str) (c P:Addr):Prop where
 fn:∃(oc:Value) (od:Option Addr) (fd:FuncData) (osl:Array (Option Value)),K.lookup (ga K x)=some ⟨oc,od,.func fd,osl⟩∧fd.code=.ref c
 at_:zNy K x P
 hd:PySem.W.CodeHd h c P
 emp:h.get? P=some {cls:=.none,data:=.fields #[]}
 nk:K.lookup P=none
end
end Cm
namespace Cm
open PySem PySem.Spec PyProof.Rows L2
section
variable {α β γ τ:Type} {e:Sl} {v:Option α} {ea:α→PyData}
end
end Cm
namespace Cm
open PySem PySem.Spec PyProof.Rows L2
section
variable {X:Cx} {K:oB}
end
end Cm
namespace Cm
open PySem PySem.Spec PyProof.Rows L2
open Sem (wp)
structure MadeZ (xs ys:Array Value) (lo:Addr) (h:Heap) (as:List Addr):Prop where
 rise:as.Pairwise (·<·)
 above:∀a∈as,lo<a
 pairs:∀(j:Nat) (a:Addr),as[j]?=some a→∃x y,xs[j]?=some x∧ys[j]?=some y∧IsPair h a x y
theorem MadeZ.there {xs ys:Array Value} {lo:Addr} {h:Heap} {as:List Addr} (g:MadeZ xs ys lo h as) {a:Addr} (ha:a∈as):a<h.objs.size:=by
 obtain ⟨j,hj⟩:=List.mem_iff_getElem?.mp ha
 obtain ⟨_,_,_,_,e⟩:=g.pairs j a hj
 exact Heap.lt_size e
structure ZLow (z TI TO i1 i2 l1 l2 S:Addr):Prop where
 z:z<S
 TI:TI<S
 TO:TO<S
 i1:i1<S
 i2:i2<S
 l1:l1<S
 l2:l2<S
section
variable {prog:Program} {w:World} {A:Around} {E:Value→Shared→Prop} {s:Shared} {z TI TO i1 i2 l1 l2 S:Addr} {xs ys:Array Value}
end
section
variable {prog:Program} {w:World} {A:Around} {s:Shared} {R:Result→Shared→Prop} {z TI TO i1 i2 l1 l2 S:Addr} {xs ys:Array Value}
end
section
variable {X:Cx} {K:oB}
end
section
variable {β:Type} {env e:Sl} {R:Option β} {ms:MA} {K:Res→Sl→Option β}
end
section
variable {β γ σ τ:Type} {g:MGP} {t:MT} {me:ME} {vs:List Nat} {e:Sl} {E:σ→Sl}
end
end Cm
namespace Cm
open PySem PySem.Spec PyProof.Rows L2
section
variable {P:Program} {w:World} {K:oB} {mg:Str→Option Value} {base:Heap}
theorem FnG.imp {k:Nat} {f:Addr} {fd:FuncData} {ps:List Str} {sp sp':Sp} (F:FnG P w K mg base k f fd ps sp) (i:∀xs H Q E,sp' xs H Q E→sp xs H Q E):FnG P w K mg base k f fd ps sp':=F.less i
end
section
variable {P:Program} {w:World} {K:oB} {mg:Str→Option Value} {h:Heap} {a ct pt:Addr} {vs:List Value} {xs:List V}
end
section
variable {X:Cx} {K:oB} {m m2:ME}
end
section
variable {β γ:Type} {env e:Sl} {R:Option β} {m m2:ME} {K:Res→Sl→Option β}
end
section
variable {X:Cx} {K:oB}
end
section
variable {β:Type} {env e:Sl} {R:Option β} {m:ME}
end
end Cm
namespace Cm
open PySem L2
section
variable {X:Cx} {K:oB}
end
end Cm
namespace Cm
open PySem PySem.Spec PyProof.Rows L2
section
variable {prog:Program} {w:World} {A:Around} {E:Value→Shared→Prop} {s:Shared}
end
section
variable {prog:Program} {w:World} {A:Around} {E:Value→Shared→Prop} {s:Shared}
end
structure EApart (e z TI TO i1 i2:Addr):Prop where
 ez:e≠z
 eTI:e≠TI
 eTO:e≠TO
 e1:e≠i1
 e2:e≠i2
section
variable {X:Cx} {K:oB} {js:List Nat} {g:MG} {b:MS} {mi:MI} {pos:Pos}
end
section
variable {β γ:Type} {env e:Sl} {R:Option β} {ms:MA} {K:List PyData→Sl→Option β}
end
end Cm
namespace Cm
open PySem L2
section
variable {X:Cx} {K:oB} {B:Fb} {env:Sl} {σ:St} {Hk:Kn} {H:Hp}
end
section
variable {β γ:Type} {env e:Sl} {R:Option β} {m:ME} {M:List MC}
end
end Cm
namespace Cm
open PySem L2
section
open He
def zMR (g:Addr→Option Obj) (a:Addr):List Addr:=match g a with
 |some o=>refsD o
 |none=>[]
def asF (g:Addr→Option Obj):Nat→List Addr→List Addr
 |0,l=>l
 |n+1,l=>l++asF g n (l.flatMap (zMR g))
def obsYG (n:Nat) (fa:List Fa) (fn:List DefD) (ds:List (Str×PyData)) (kd:List (Str×List (Str×PyData))) (g:Addr→Option Obj):AlX:=obsX fa fn ds kd (frG g (asF g n [mainGlobals]))
def hookY (n:Nat) (fa:List Fa) (fn:List DefD) (ds:List (Str×PyData)) (kd:List (Str×List (Str×PyData))):PySem.W.Hook where
 α:=AlX
 obs:=fun s=>obsYG n fa fn ds kd s.heap.get?
 val:=fun w=>valX fn ds kd w
 says:=fun w h=>∃K:oB,K.In h∧SaysX fa fn ds kd w K
 of:=fun _ _ e=>⟨_,frG_in,e⟩
 keeps:=fun _ _ _ ⟨K,hK,c⟩ k=>⟨K,PySem.W.Frag.In.keeps hK k,c⟩
theorem obsYG_eq {n:Nat} {fa:List Fa} {fn:List DefD} {ds:List (Str×PyData)} {kd:List (Str×List (Str×PyData))} {g:Addr→Option Obj} {s:Shared} (h:∀a,g a=s.heap.get? a):obsYG n fa fn ds kd g=(hookY n fa fn ds kd).obs s:=by
 have e:g=s.heap.get?:=funext h
 rw [e]<;>rfl
end
end Cm
namespace Cm
open PySem PySem.Spec PyProof.Rows L2
section
variable {X:Cx} {K:oB} {B:Fb} {env:Sl} {σ:L2.St} {Hk H:Hp}
def zM2 (i j:Int):Prop:=(-100000≤i∧i≤100000)∧(-100000≤j∧j≤100000)
instance (i j:Int):Decidable (zM2 i j):=by unfold zM2;infer_instance
end
section
variable {β γ:Type} {env e:Sl} {R:Option β} {ma mb:ME} {K:Res→Sl→Option β}
end
end Cm
namespace Cm
open PySem PySem.Spec PyProof.Rows L2
section
variable {α β γ τ:Type} {e:Sl} {R:Option β} {K:Res→Sl→Option β}
end
end Cm
namespace Cm
open PySem PySem.Spec PyProof.Rows L2
section
variable {X:Cx} {K:oB} {B:Fb} {env:Sl} {σ:L2.St} {Hk:Kn} {H:Hp}
end
section
variable {m:ME} {env e:Sl} {β γ τ:Type} {K:Res→Sl→Option β} {R:Option β}
end
end Cm
namespace Cm
open PySem PySem.Calls PyProof.Rows L2
open PySem.W (EachIs SortsAt alike sortVals copyHeap sortingHeap keyToks)
def zL3:PyData→Int×Int
 |.tuple (.int i::.int j::_)=>(i,j)
 |_=>(0,0)
structure Heads2 (ds:List PyData):Prop where
 hd:∀d∈ds,∃i j r,d=.tuple (.int i::.int j::r)
 un:(ds.map zL3).Nodup
 self:∀d∈ds,alike d d=true
 lay:∀d∈ds,d.canLay0=true∧d.depth≤60
 len:ds.length≤100000
theorem Heads2.inj {ds:List PyData} (h:Heads2 ds) {d d':PyData} (hd:d∈ds) (hd':d'∈ds) (e:zL3 d=zL3 d'):d=d':=by
 obtain ⟨i,hi,rfl⟩:=List.getElem_of_mem hd
 obtain ⟨j,hj,rfl⟩:=List.getElem_of_mem hd'
 have hn:=h.un
 rw [List.Nodup,List.pairwise_iff_getElem] at hn
 by_cases hij:i=j
 ·subst hij;rfl
 ·exfalso
  rcases Nat.lt_or_gt_of_ne hij with q|q
  ·exact hn i j (by simpa using hi) (by simpa using hj) q (by simpa using e)
  ·exact hn j i (by simpa using hj) (by simpa using hi) q (by simpa using e.symm)
section
variable {prog:Program} {w:World} {A:Around} {s:Shared}
end
section
variable {X:Cx} {K:oB} {B:Fb} {env:Sl} {σ:L2.St} {Hk H:Hp}
end
end Cm
namespace Cm
open PySem PySem.Spec PyProof.Rows L2
def zJo (ws:List Nat) (m:ME):MS:=fun env=>(m env).bind fun p=>match p.1 with
 |.slt i=>some (.rt (.slt i),zAA p.2 ws)
 |_=>none
def endD:Fl→Bool
 |.nx=>true
 |.rt _=>true
 |_=>false
def fmD (np n:Nat) (mb:MS):FM:=fun ins=>if ins.length=np then (mb (ins++List.replicate (n - np) .no)).bind fun p=>if (endD p.1&&ioKept ins p.2)=true then some (.dat .none,p.2.take np) else none else none
def spD (K:oB) (fm:FM):Sp:=fun vs H Q _=>∃Hk ins r outs,Same Hk H∧ArgsOk K Hk H ins vs∧fm ins=some (r,outs)∧∀u Hk' H',PostF K Hk H ins vs outs (.dat .none) .non Hk' H'→Q u H'
section
variable {X:Cx} {K:oB} {me:ME} {ws:List Nat} {e:Expr} {pos:Pos}
theorem zKf {W:WX} {D:Ends} {σ:L2.St} {H:Hp} (h:tS K W (zJo ws me) D σ H):tRet (tE K me) D σ H:=by
 obtain ⟨B,env,Hk,f,env',R,hm,k⟩:=h
 obtain ⟨⟨r1,e1⟩,h1,hm⟩:=oC.mp hm
 cases r1 with
 |slt i=>
  cases hm
  exact ⟨B,env,Hk,.slt i,e1,R,h1,fun v Hk1 H1 R1 s1 o1=>k σ Hk1 H1 (R1.wipe0 ws) s1 v o1⟩
 |dat d=>cases hm
 |new c=>cases hm
 |pv p=>cases hm
theorem zLt (he:VE X e me):VS X (.Return (some e) pos) (zJo ws me):=fun W _=>(ps_ret he).imp fun _ _ _=>zKf
end
section
variable {P:Program} {w:World} {K:oB} {mg:Str→Option Value} {base:Heap}
theorem zJG {np n:Nat} {mb:MS} (ins:Sl) (r:Res×Sl) (h:fmD np n mb ins=some r):ins.length=np:=by
 unfold fmD at h;by_cases hl:ins.length=np
 ·exact hl
 ·rw [if_neg hl] at h
  cases h
theorem zL9 {np n:Nat} {mb:MS} (ins:Sl) (r:Res) (o:Sl) (h:fmD np n mb ins=some (r,o)):r=.dat .none:=by
 unfold fmD at h
 split at h
 ·obtain ⟨p,_,h⟩:=oC.mp h
  split at h
  ·cases h
   rfl
  ·cases h
 ·cases h
theorem zKG {qual:Str} {st:Stmt} {f:Addr} {N ps:List Str} {mb:MS} (S:FnScope N ps (defScope st)) {cdv:Value} {A:Around} {outer:List Env} {s:Shared} {H:Hp} {E:XK} {vs:List V} {Q:VK}
  (hb:VSs ((cxOf CX0 P w K mg base N qual (defScope st) f cdv A outer s H E).nox) (defBody st) mb) (h:spD K (fmD ps.length N.length mb) vs H Q E):
  ∃t,PSs (cxOf CX0 P w K mg base N qual (defScope st) f cdv A outer s H E) (defBody st) t∧t {nx:=fun _ H'=>Q .non H',rt:=Q} (L2.start N vs) H:=by
 obtain ⟨Hk,ins,r,outs,sm,hA,hf,q⟩:=h
 have hl:=zJG _ _ hf
 unfold fmD at hf;rw [if_pos hl] at hf
 have hpl:ps.length≤N.length:=by
  have:=congrArg List.length S.pre
  rw [List.length_take] at this
  omega
 obtain ⟨⟨fl,env'⟩,h1,hf⟩:=oC.mp hf
 dsimp only at hf
 split at hf
 ·rename_i hk
  obtain ⟨hend,hk⟩:=Bool.and_eq_true_iff.mp hk
  cases hf
  refine ⟨tS K (fun _ _ _ _=>False) mb,PSs.nox (hb _ fun u s' h=>by obtain ⟨_,_,_,_,_,_,_,_,_,_,_,_,_,_,_,_,w⟩:=h;exact w.elim),?_⟩
  have R:=hA.rel (N:=N) sm (by rw [←hA.len,hl];exact hpl)
  rw [hl] at R
  refine ⟨_,_,_,fl,env',R,h1,fun σ' Hk' H' R' s'=>?_⟩
  have post:∀v,Q v H':=fun v=>by
   refine q v Hk' H' ⟨s'.s,R'.ex,R'.fr,fun a o h1 h2=>R'.kp a o h1 (fun z=>z.elim (fun ⟨k,z⟩=>h2 k z) id),fun k a h=>?_,.non⟩
   obtain ⟨l,c,e1,e2⟩:=zFD h
   have:=hA.ix k l c e1
   subst this;obtain ⟨c',g1⟩:=zAq hk e1
   have hlt:l<ps.length:=by rw [←hl];exact (oE.mp e1).1
   refine ⟨c',by rw [List.getElem?_take_of_lt hlt];exact g1,(R'.oin a (.inl ⟨l,h⟩)).2,?_⟩
   obtain ⟨o,_,b,_,_,z1,z2⟩:=R'.slot l _ g1
   have z1:ioA ins vs l=some b:=z1
   rw [h] at z1
   cases z1
   exact z2
  cases fl with
  |nx=>exact post _
  |bk=>cases hend
  |ct=>cases hend
  |ex C fs=>cases hend
  |rt r0=>exact fun v _=>post v
 ·cases hf
theorem zLC {N ps:List Str} {mb:MS} (vs:List V) (H:Hp) (Q:VK) (E:XK) (h:spD K (fmD ps.length N.length mb) vs H Q E):vs.length=ps.length:=by
 obtain ⟨Hk,ins,r,outs,_,hA,hf,_⟩:=h
 rw [←hA.len,zJG _ _ hf]
theorem zNo {x qual:Str} {st:Stmt} {f:Addr} {fd:FuncData} {N ps:List Str} {k:Nat} {mb:MS} (F:FunD K x qual (defArgs st) (defBody st) (defScope st) [] [] f fd) (S:FnScope N ps (defScope st))
  (hb:∀(cdv:Value) (A:Around) (outer:List Env) (s:Shared) (H:Hp) (E:XK),Room k (A.deeper (envOfC qual (defScope st) s.heap.objs.size f cdv))→VSs ((cxOf CX0 P w K mg base N qual (defScope st) f cdv A outer s H E).nox) (defBody st) mb):
  FnOk P w K mg base CX0 (k+1) f fd ps (spD K (fmD ps.length N.length mb)):=
 F.ok (CX:=CX0) S zLC fun cdv A outer s H vs Q E hr h=>zKG S (hb cdv A outer s H E hr) h
end
section
variable {X:Cx} {k:Nat} {f:Addr} {fd:FuncData} {ps:List Str} {x:Str} {p pos pos2:Pos} {e:Expr} {es:List Expr} {ms:MA} {np n:Nat} {mb:MS}
theorem zJ4 (io:Option Nat) (F:FnOk X.prog X.w X.K X.mg X.base CX0 k f fd ps (spD X.K (fmD np n mb))) (hr:Room k X.A) (hm:X.mg x=some (.ref f)) (hk:PySem.W.keepIn X.K (.ref f)=true) (hb:Binds X.K fd ps [])
  (ha:VA X (e::es) ms) (hg:Gl X x:=by rfl) (hdb:(x==("__debug__":Str))=false:=by decide) (he:starEach (e::es) X.env=(false,eval e X.env)::starEach es X.env:=by rfl) (hpl:(backTo pos (starEach es X.env)).any (·.1)=false:=by rfl)
  (hs:swapsWith (.Call (.Name x p) (e::es) [] pos) none pos2.line X.env=pure false:=by rfl):
  VS X (.Expr (.Call (.Name x p) (e::es) [] pos) pos2) (zEO (zDD (fmD np n mb) io ms)):=fun W _=>(ps_expr (pe_call F hr hg hm hk hb .nil pass0 ha hdb he hpl) hs).imp fun D σ H h=>by
 have h2:tCall (spF X.K (fmD np n mb)) [] E0 (tA X.K ms) σ H (fun _ H1=>D.nx σ H1):=zHr (zIn h)
 obtain ⟨B,env,Hk,rs,env',R,hm',kk⟩:=h2
 refine ⟨B,env,Hk,rs,env',R,hm',fun vs Hk1 H1 R1 s1 o1=>?_⟩
 obtain ⟨Hk2,ins,r,outs,z1,z2,z3,z4⟩:=kk vs Hk1 H1 R1 s1 o1
 obtain rfl:=zL9 _ _ _ z3
 exact ⟨Hk2,ins,_,outs,z1,z2,z3,fun u Hk' H' pp=>z4 .non Hk' H' pp⟩
end
section
variable {β:Type} {R:Option β} {env e e2:Sl} {m:ME} {ws:List Nat} {K:Fl→Sl→Option β}
def zMP (ws:List Nat) (r:Res) (e:Sl) (K:Fl→Sl→Option β):Option β:=match r with
 |.slt i=>K (.rt (.slt i)) (zAA e ws)
 |_=>none
theorem c_bl (k:bnd (m env) (fun r e=>zMP ws r e K)=R):bnd (zJo ws m env) K=R:=by
 rw [←k];unfold zJo bnd;cases m env with
 |none=>rfl
 |some p=>
  cases p with
  |mk r e=>cases r<;>rfl
theorem c_bk {i:Nat} (hw:zAA e ws=e2) (k:K (.rt (.slt i)) e2=R):zMP ws (.slt i) e K=R:=by
 subst hw;exact k
theorem c_bx {τ:Type} {np n:Nat} {mb:MS} {ins:Sl} {Y:Option τ} {oR:τ→Res} {eR:τ→Sl} {out:τ→Res×Sl} (env:Sl) (h1:ins.length=np) (h2:ins++List.replicate (n - np) .no=env)
  (k:bnd (mb env) (fun f e=>some (f,e))=Y.bind fun z=>some (.rt (oR z),eR z)) (h3:∀z,some (Res.dat .none)=some (out z).1) (h4:∀z,ioKept ins (eR z)=true) (h5:∀z,(eR z).take np=(out z).2):fmD np n mb ins=Y.map out:=by
 have hk:mb env=Y.map fun z=>(Fl.rt (oR z),eR z):=c_aS k
 unfold fmD;rw [if_pos h1,h2,hk];cases Y with
 |none=>rfl
 |some z=>
  show (if (endD (.rt (oR z))&&ioKept ins (eR z))=true then some (Res.dat PyData.none,(eR z).take np) else none)=some (out z)
  rw [h4 z];show some (Res.dat PyData.none,(eR z).take np)=some (out z)
  rw [h5 z];exact congrArg some (Prod.ext (oG (h3 z)) rfl)
end
end Cm
set_option synthInstance.maxSize 10000
set_option synthInstance.maxHeartbeats 400000
local macro_rules | `(tactic| walk_at "fl") => `(tactic| first | rfl | (simp [Cm.flatR, Cm.flatS, Cm.flatD]; done) | (simp only [Cm.flatR, Cm.flatS, List.all_cons, List.all_nil, Bool.and_true]; exact Cm.flat_eO fun _ => rfl))
local macro_rules | `(tactic| walk_at "ik") => `(tactic| first | rfl | (simp [Cm.ioKept]; done))
open Lean in
local macro_rules
 | `(tactic| walk_at $s:str) => do
  let v:=s.getString
  unless v.startsWith "~" do Macro.throwUnsupported
  let r ← `(rfl)
  let mut ts : Array (TSyntax `tactic) := #[]
  for w in (v.drop 1).toString.splitOn " " do
   let p:=w.splitOn ":"
   let f:=mkIdent (Name.mkSimple ("c_"++p.head!))
   let n:=(p.getD 1 "0").toNat!
   let as : TSyntaxArray `term := (List.replicate n r).toArray
   ts := ts.push (← `(tactic| refine $f $as* ?_))
  `(tactic| ($[$ts:tactic];*))
namespace Lw
open PySem L2 Cm
def topS (i:Nat):Stmt:=PySem.Challenge.pw_campcarry_k08_whole_measures_and_sizes.main.body.getD i (.Pass ⟨0,0,0,0⟩)
abbrev zCx:Stmt:=topS 22
theorem sc_w_folded:FnScope ["_law_script","_law_size","_law_cells","_law_k","_law_cell"] ["_law_script","_law_size"] (defScope zCx):=⟨rfl,rfl,rfl,by decide+kernel,rfl,by decide+kernel,by decide+kernel⟩
abbrev zFi:Stmt:=topS 20
theorem sc_w_box:FnScope ["_law_script","_law_k","_law_cell"] ["_law_script","_law_k"] (defScope zFi):=⟨rfl,rfl,rfl,by decide+kernel,rfl,by decide+kernel,by decide+kernel⟩
abbrev zD1:Stmt:=topS 21
theorem sc_w_take:FnScope ["_law_box_here","_law_many","_law_step","_law_once","_law_twice","_law_found"] ["_law_box_here","_law_many"] (defScope zD1):=⟨rfl,rfl,rfl,by decide+kernel,rfl,by decide+kernel,by decide+kernel⟩
abbrev zC3:Stmt:=topS 27
theorem sc_w_sizes:FnScope ["_law_box_here","_law_found","_law_turn"] ["_law_box_here"] (defScope zC3):=⟨rfl,rfl,rfl,by decide+kernel,rfl,by decide+kernel,by decide+kernel⟩
abbrev zD0:Stmt:=topS 23
theorem sc_w_wide:FnScope ["_law_box_here","_law_many","_law_found","_law_turn"] ["_law_box_here","_law_many"] (defScope zD0):=⟨rfl,rfl,rfl,by decide+kernel,rfl,by decide+kernel,by decide+kernel⟩
abbrev zBQ:Stmt:=topS 8
theorem sc_parcels_of:FnScope ["sizes","amount","left","found","size"] ["sizes","amount"] (defScope zBQ):=⟨rfl,rfl,rfl,by decide+kernel,rfl,by decide+kernel,by decide+kernel⟩
abbrev zBC:Stmt:=topS 25
theorem sc_w_copied:FnScope ["_law_thing","_law_part"] ["_law_thing"] (defScope zBC):=⟨rfl,rfl,rfl,by decide+kernel,rfl,by decide+kernel,by decide+kernel⟩
abbrev zDq:Stmt:=topS 24
theorem sc_w_same:FnScope ["_law_found","_law_due","_law_one","_law_other"] ["_law_found","_law_due"] (defScope zDq):=⟨rfl,rfl,rfl,by decide+kernel,rfl,by decide+kernel,by decide+kernel⟩
abbrev zCw:Stmt:=topS 26
theorem sc_w_marked:FnScope ["_law_thing","_law_part"] ["_law_thing"] (defScope zCw):=⟨rfl,rfl,rfl,by decide+kernel,rfl,by decide+kernel,by decide+kernel⟩
abbrev zA9:Stmt:=topS 5
theorem zFf:FnScope ["thing"] ["thing"] (defScope zA9):=⟨rfl,rfl,rfl,by decide+kernel,rfl,by decide+kernel,by decide+kernel⟩
abbrev zBa:Stmt:=topS 6
theorem zFg:FnScope ["size","other"] ["size","other"] (defScope zBa):=⟨rfl,rfl,rfl,by decide+kernel,rfl,by decide+kernel,by decide+kernel⟩
abbrev zB4:Stmt:=topS 7
theorem sc_is_sizes:FnScope ["thing","size","other","one"] ["thing"] (defScope zB4):=⟨rfl,rfl,rfl,by decide+kernel,rfl,by decide+kernel,by decide+kernel⟩
abbrev zB3:Stmt:=topS 9
theorem sc_units_of:FnScope ["weights","size","weight"] ["weights","size"] (defScope zB3):=⟨rfl,rfl,rfl,by decide+kernel,rfl,by decide+kernel,by decide+kernel⟩
abbrev zBP:Stmt:=topS 15
theorem sc_units_text:FnScope ["number","units","found","left","letter","worth"] ["number","units"] (defScope zBP):=⟨rfl,rfl,rfl,by decide+kernel,rfl,by decide+kernel,by decide+kernel⟩
abbrev zBn:Stmt:=topS 17
theorem zFR:FnScope ["pounds"] ["pounds"] (defScope zBn):=⟨rfl,rfl,rfl,by decide+kernel,rfl,by decide+kernel,by decide+kernel⟩
abbrev zAT:Stmt:=topS 14
theorem sc_plain_number:FnScope ["text","sign"] ["text"] (defScope zAT):=⟨rfl,rfl,rfl,by decide+kernel,rfl,by decide+kernel,by decide+kernel⟩
abbrev zCy:Stmt:=topS 16
theorem sc_units_in:FnScope ["text","units","found","rest","letter","worth","head","mark","tail","many"] ["text","units"] (defScope zCy):=⟨rfl,rfl,rfl,by decide+kernel,rfl,by decide+kernel,by decide+kernel⟩
abbrev zB9:Stmt:=topS 18
theorem zGO:FnScope ["text"] ["text"] (defScope zB9):=⟨rfl,rfl,rfl,by decide+kernel,rfl,by decide+kernel,by decide+kernel⟩
abbrev zAN:Stmt:=topS 28
theorem sc_w_sacks_right:FnScope ["_law_sizes_here","_law_amount","_law_sacks","_law_whole","_law_size","_law_other","_law_sack"] ["_law_sizes_here","_law_amount"] (defScope zAN):=⟨rfl,rfl,rfl,by decide+kernel,rfl,by decide+kernel,by decide+kernel⟩
abbrev zA1:Stmt:=topS 29
theorem sc_w_grown_right:FnScope ["_law_box_here","_law_sizes_here","_law_own","_law_k","_law_amount","_law_before","_law_whole"] ["_law_box_here","_law_sizes_here"] (defScope zA1):=⟨rfl,rfl,rfl,by decide+kernel,rfl,by decide+kernel,by decide+kernel⟩
abbrev zBO:Stmt:=topS 30
theorem sc_w_right:FnScope ["_law_box_here","_law_rows","_law_asks","_law_first","_law_kept","_law_k","_law_which","_law_amount","_law_told","_law_turn","_law_row"] ["_law_box_here"] (defScope zBO):=⟨rfl,rfl,rfl,by decide+kernel,rfl,by decide+kernel,by decide+kernel⟩
abbrev zIx:Stmt:=topS 31
theorem sc_law:FnScope ["_law_script","_law_cells","_law_k"] ["_law_script"] (defScope zIx):=⟨rfl,rfl,rfl,by decide+kernel,rfl,by decide+kernel,by decide+kernel⟩
abbrev FnP (K:oB) (x:Str) (st:Stmt) (f:Addr) (fd:FuncData):Prop:=FunD K x x (defArgs st) (defBody st) (defScope st) [] [] f fd
def c_a5:PyData:=.str "0123456789"
def c_a4:PyData:=.int 2
def c_a3:PyData:=.int 9
def c_a2:PyData:=.int 100
def c_a1:PyData:=.int 5
def c_a0:PyData:=.int 12
def c_at:PyData:=.tuple [.tuple [.str "c",.int 112],.tuple [.str "s",.int 14],.tuple [.str "p",.int 1]]
def zA8:(List (Str×Int)):=[("c",112),("s",14),("p",1)]
structure Tx (w:World) (K:oB) (mg:Str→Option Value) (fd:Nat→FuncData):Prop where
 jAk:FnP K "_law_folded" zCx (He.ga K "_law_folded") (fd 0)
 jAF:mg "_law_folded"=some (.ref (He.ga K "_law_folded"))
 jAi:FnP K "_law_box" zFi (He.ga K "_law_box") (fd 1)
 jAD:mg "_law_box"=some (.ref (He.ga K "_law_box"))
 jAr:FnP K "_law_take" zD1 (He.ga K "_law_take") (fd 2)
 jAM:mg "_law_take"=some (.ref (He.ga K "_law_take"))
 jAq:FnP K "_law_sizes" zC3 (He.ga K "_law_sizes") (fd 3)
 jAL:mg "_law_sizes"=some (.ref (He.ga K "_law_sizes"))
 jAs:FnP K "_law_wide" zD0 (He.ga K "_law_wide") (fd 4)
 jAN:mg "_law_wide"=some (.ref (He.ga K "_law_wide"))
 jAd:FnP K "parcels_of" zBQ (He.ga K "parcels_of") (fd 5)
 jAy:mg "parcels_of"=some (.ref (He.ga K "parcels_of"))
 jAj:FnP K "_law_copied" zBC (He.ga K "_law_copied") (fd 6)
 jAE:mg "_law_copied"=some (.ref (He.ga K "_law_copied"))
 jAp:FnP K "_law_same" zDq (He.ga K "_law_same") (fd 7)
 jAK:mg "_law_same"=some (.ref (He.ga K "_law_same"))
 jAm:FnP K "_law_marked" zCw (He.ga K "_law_marked") (fd 8)
 jAH:mg "_law_marked"=some (.ref (He.ga K "_law_marked"))
 jAv:FnP K "whole_number" zA9 (He.ga K "whole_number") (fd 9)
 jAQ:mg "whole_number"=some (.ref (He.ga K "whole_number"))
 jAa:FnP K "follows_size" zBa (He.ga K "follows_size") (fd 10)
 jAw:mg "follows_size"=some (.ref (He.ga K "follows_size"))
 jAb:FnP K "is_sizes" zB4 (He.ga K "is_sizes") (fd 11)
 jAx:mg "is_sizes"=some (.ref (He.ga K "is_sizes"))
 jAg:FnP K "units_of" zB3 (He.ga K "units_of") (fd 12)
 jAB:mg "units_of"=some (.ref (He.ga K "units_of"))
 jAh:FnP K "units_text" zBP (He.ga K "units_text") (fd 13)
 jAC:mg "units_text"=some (.ref (He.ga K "units_text"))
 jAu:FnP K "weight_text" zBn (He.ga K "weight_text") (fd 14)
 jAP:mg "weight_text"=some (.ref (He.ga K "weight_text"))
 jAe:FnP K "plain_number" zAT (He.ga K "plain_number") (fd 15)
 jAz:mg "plain_number"=some (.ref (He.ga K "plain_number"))
 jAf:FnP K "units_in" zCy (He.ga K "units_in") (fd 16)
 jAA:mg "units_in"=some (.ref (He.ga K "units_in"))
 jAt:FnP K "weight_in" zB9 (He.ga K "weight_in") (fd 17)
 jAO:mg "weight_in"=some (.ref (He.ga K "weight_in"))
 jAo:FnP K "_law_sacks_right" zAN (He.ga K "_law_sacks_right") (fd 18)
 jAJ:mg "_law_sacks_right"=some (.ref (He.ga K "_law_sacks_right"))
 jAl:FnP K "_law_grown_right" zA1 (He.ga K "_law_grown_right") (fd 19)
 jAG:mg "_law_grown_right"=some (.ref (He.ga K "_law_grown_right"))
 jAn:FnP K "_law_right" zBO (He.ga K "_law_right") (fd 20)
 jAI:mg "_law_right"=some (.ref (He.ga K "_law_right"))
 jAc:FnP K "law" zIx (He.ga K "law") (fd 21)
 g_law:mg "law"=some (.ref (He.ga K "law"))
 b_abs:mg "abs"=none
 b_all:mg "all"=none
 b_bool:mg "bool"=none
 b_enumerate:mg "enumerate"=none
 b_int:mg "int"=none
 b_isinstance:mg "isinstance"=none
 b_len:mg "len"=none
 b_list:mg "list"=none
 b_max:mg "max"=none
 b_range:mg "range"=none
 b_reversed:mg "reversed"=none
 b_str:mg "str"=none
 b_sum:mg "sum"=none
 b_tuple:mg "tuple"=none
 b_zip:mg "zip"=none
 k_FIGURES:∃t,mg "FIGURES"=some (.str "0123456789" t)
 k_LEAST_TIMES:∃t,mg "LEAST_TIMES"=some (.int 2 t)
 k_MOST_FIGURES:∃t,mg "MOST_FIGURES"=some (.int 9 t)
 k_MOST_FIRST:∃t,mg "MOST_FIRST"=some (.int 100 t)
 k_MOST_SIZES:∃t,mg "MOST_SIZES"=some (.int 5 t)
 k_MOST_TIMES:∃t,mg "MOST_TIMES"=some (.int 12 t)
 k_WEIGHT_UNITS:mg "WEIGHT_UNITS"=some (.ref (He.ga K "WEIGHT_UNITS"))∧∀H,Dv K H (.ref (He.ga K "WEIGHT_UNITS")) c_at
end Lw
namespace Lw
open PySem PySem.Spec PyProof.Rows L2 Cm
def zF9:He.DefD:=⟨("_law_folded",none),"_law_folded","_law_folded",defArgs zCx,defBody zCx,defScope zCx,[],[]⟩
def zJK:He.DefD:=⟨("_law_box",none),"_law_box","_law_box",defArgs zFi,defBody zFi,defScope zFi,[],[]⟩
def zIr:He.DefD:=⟨("_law_take",none),"_law_take","_law_take",defArgs zD1,defBody zD1,defScope zD1,[],[]⟩
def zHm:He.DefD:=⟨("_law_sizes",none),"_law_sizes","_law_sizes",defArgs zC3,defBody zC3,defScope zC3,[],[]⟩
def zIq:He.DefD:=⟨("_law_wide",none),"_law_wide","_law_wide",defArgs zD0,defBody zD0,defScope zD0,[],[]⟩
def zEJ:He.DefD:=⟨("parcels_of",none),"parcels_of","parcels_of",defArgs zBQ,defBody zBQ,defScope zBQ,[],[]⟩
def zGa:He.DefD:=⟨("_law_copied",none),"_law_copied","_law_copied",defArgs zBC,defBody zBC,defScope zBC,[],[]⟩
def zIs:He.DefD:=⟨("_law_same",none),"_law_same","_law_same",defArgs zDq,defBody zDq,defScope zDq,[],[]⟩
def zF8:He.DefD:=⟨("_law_marked",none),"_law_marked","_law_marked",defArgs zCw,defBody zCw,defScope zCw,[],[]⟩
def zDI:He.DefD:=⟨("whole_number",none),"whole_number","whole_number",defArgs zA9,defBody zA9,defScope zA9,[],[]⟩
def zDK:He.DefD:=⟨("follows_size",none),"follows_size","follows_size",defArgs zBa,defBody zBa,defScope zBa,[],[]⟩
def zGd:He.DefD:=⟨("is_sizes",none),"is_sizes","is_sizes",defArgs zB4,defBody zB4,defScope zB4,[],[]⟩
def zGb:He.DefD:=⟨("units_of",none),"units_of","units_of",defArgs zB3,defBody zB3,defScope zB3,[],[]⟩
def zEI:He.DefD:=⟨("units_text",none),"units_text","units_text",defArgs zBP,defBody zBP,defScope zBP,[],[]⟩
def zEk:He.DefD:=⟨("weight_text",none),"weight_text","weight_text",defArgs zBn,defBody zBn,defScope zBn,[],[]⟩
def zDJ:He.DefD:=⟨("plain_number",none),"plain_number","plain_number",defArgs zAT,defBody zAT,defScope zAT,[],[]⟩
def zGc:He.DefD:=⟨("units_in",none),"units_in","units_in",defArgs zCy,defBody zCy,defScope zCy,[],[]⟩
def zFG:He.DefD:=⟨("weight_in",none),"weight_in","weight_in",defArgs zB9,defBody zB9,defScope zB9,[],[]⟩
def zDj:He.DefD:=⟨("_law_sacks_right",none),"_law_sacks_right","_law_sacks_right",defArgs zAN,defBody zAN,defScope zAN,[],[]⟩
def zDk:He.DefD:=⟨("_law_grown_right",none),"_law_grown_right","_law_grown_right",defArgs zA1,defBody zA1,defScope zA1,[],[]⟩
def zHn:He.DefD:=⟨("_law_right",none),"_law_right","_law_right",defArgs zBO,defBody zBO,defScope zBO,[],[]⟩
def zNq:He.DefD:=⟨("law",none),"law","law",defArgs zIx,defBody zIx,defScope zIx,[],[]⟩
def fn:List He.DefD:=[zF9,zJK,zIr,zHm,zIq,zEJ,zGa,zIs,zF8,zDI,zDK,zGd,zGb,zEI,zEk,zDJ,zGc,zFG,zDj,zDk,zHn,zNq]
def fa:List He.Fa:=[.glo "_law_folded",.glo "_law_box",.glo "_law_take",.glo "_law_sizes",.glo "_law_wide",.glo "parcels_of",.glo "_law_copied",.glo "_law_same",.glo "_law_marked",.glo "whole_number",.glo "follows_size",.glo "is_sizes",.glo "units_of",.glo "units_text",.glo "weight_text",.glo "plain_number",.glo "units_in",.glo "weight_in",.glo "_law_sacks_right",.glo "_law_grown_right",.glo "_law_right",.glo "law",.free "abs",.free "all",.free "bool",.free "enumerate",.free "int",.free "isinstance",.free "len",.free "list",.free "max",.free "range",.free "reversed",.free "str",.free "sum",.free "tuple",.free "zip",.str "FIGURES" "0123456789",.int "LEAST_TIMES" 2,.int "MOST_FIGURES" 9,.int "MOST_FIRST" 100,.int "MOST_SIZES" 5,.int "MOST_TIMES" 12,.glo "WEIGHT_UNITS"]
abbrev R:PySem.W.OpenRow:=PySem.W.OpenLaw.row PySem.Challenge.rw_campcarry_k08_whole_measures_and_sizes
def dsC:List (Str×PyData):=[("WEIGHT_UNITS",c_at)]
def kdC:List (Str×List (Str×PyData)):=[]
abbrev hk:PySem.W.Hook:=Cm.hookY 4 fa fn dsC kdC
def ob (s:PySem.W.SharedT):Cm.AlX:=Cm.obsYG 4 fa fn dsC kdC (HandSHeadRun.getT s)
theorem ob_eq (s:PySem.W.SharedT):ob s=hk.obs s.abs:=Cm.obsYG_eq (HandSHeadRun.getT_eq s)
set_option maxHeartbeats 0 in
theorem zIy (w:World):HandSHeadRun.RunEq R (PySem.W.view R.prog [31]) hk ob 3000 ("MOST_SIZES"::"MOST_FIRST"::"LEAST_TIMES"::"MOST_TIMES"::"whole_number"::"follows_size"::"is_sizes"::"parcels_of"::"units_of"::"FIGURES"::"MOST_FIGURES"::"WEIGHT_UNITS"::"plain_number"::"units_text"::"units_in"::"weight_text"::"weight_in"::"_law_box"::"_law_take"::"_law_folded"::"_law_wide"::"_law_same"::"_law_copied"::"_law_marked"::"_law_sizes"::"_law_sacks_right"::"_law_grown_right"::"_law_right"::([]:List PySem.Str)) (Cm.fixW false w):=by
 intro os
 kernel_rfl
set_option maxHeartbeats 0 in
theorem zJb (w:World):HandSHeadRun.RunEq R (PySem.W.view R.prog [31]) hk ob 3000 ("MOST_SIZES"::"MOST_FIRST"::"LEAST_TIMES"::"MOST_TIMES"::"whole_number"::"follows_size"::"is_sizes"::"parcels_of"::"units_of"::"FIGURES"::"MOST_FIGURES"::"WEIGHT_UNITS"::"plain_number"::"units_text"::"units_in"::"weight_text"::"weight_in"::"_law_box"::"_law_take"::"_law_folded"::"_law_wide"::"_law_same"::"_law_copied"::"_law_marked"::"_law_sizes"::"_law_sacks_right"::"_law_grown_right"::"_law_right"::([]:List PySem.Str)) (Cm.fixW true w):=by
 intro os
 kernel_rfl
set_option maxHeartbeats 0 in
theorem runK (b:Bool) (w:World):HandSHeadRun.RunEq R (PySem.W.view R.prog [31]) hk ob 3000 ("MOST_SIZES"::"MOST_FIRST"::"LEAST_TIMES"::"MOST_TIMES"::"whole_number"::"follows_size"::"is_sizes"::"parcels_of"::"units_of"::"FIGURES"::"MOST_FIGURES"::"WEIGHT_UNITS"::"plain_number"::"units_text"::"units_in"::"weight_text"::"weight_in"::"_law_box"::"_law_take"::"_law_folded"::"_law_wide"::"_law_same"::"_law_copied"::"_law_marked"::"_law_sizes"::"_law_sacks_right"::"_law_grown_right"::"_law_right"::([]:List PySem.Str)) (Cm.fixW b w):=by
 cases b
 ·exact zIy w
 ·exact zJb w
theorem run (w:World):HandSHeadRun.RunEq R (PySem.W.view R.prog [31]) hk ob 3000 ("MOST_SIZES"::"MOST_FIRST"::"LEAST_TIMES"::"MOST_TIMES"::"whole_number"::"follows_size"::"is_sizes"::"parcels_of"::"units_of"::"FIGURES"::"MOST_FIGURES"::"WEIGHT_UNITS"::"plain_number"::"units_text"::"units_in"::"weight_text"::"weight_in"::"_law_box"::"_law_take"::"_law_folded"::"_law_wide"::"_law_same"::"_law_copied"::"_law_marked"::"_law_sizes"::"_law_sacks_right"::"_law_grown_right"::"_law_right"::([]:List PySem.Str)) w:=by
 have h:=runK (w.params.followText "special-get-raises") w
 rw [Cm.fixW_eq] at h
 exact h
end Lw
namespace Lw
open PySem L2 Cm
noncomputable section
variable {P:Program} {w:World} {K:oB} {mg:Str→Option Value} {base:Heap} {fd:Nat→FuncData}
theorem zGN {X:Cx} {pos:Pos} (T:Tx X.w X.K X.mg fd) (hg:Gl X "FIGURES":=by rfl):VE X (.Name "FIGURES" pos) (mC c_a5):=let ⟨t,h⟩:=T.k_FIGURES;zDN hg h (show RelV (.str "0123456789") _ from ⟨t,rfl⟩) (fun _=>.str _)
theorem zEL {X:Cx} {pos:Pos} (T:Tx X.w X.K X.mg fd) (hg:Gl X "LEAST_TIMES":=by rfl):VE X (.Name "LEAST_TIMES" pos) (mC c_a4):=let ⟨t,h⟩:=T.k_LEAST_TIMES;zDN hg h (show RelV (.int 2) _ from ⟨t,rfl⟩) (fun _=>.int _)
theorem zEn {X:Cx} {pos:Pos} (T:Tx X.w X.K X.mg fd) (hg:Gl X "MOST_FIGURES":=by rfl):VE X (.Name "MOST_FIGURES" pos) (mC c_a3):=let ⟨t,h⟩:=T.k_MOST_FIGURES;zDN hg h (show RelV (.int 9) _ from ⟨t,rfl⟩) (fun _=>.int _)
theorem zFa {X:Cx} {pos:Pos} (T:Tx X.w X.K X.mg fd) (hg:Gl X "MOST_FIRST":=by rfl):VE X (.Name "MOST_FIRST" pos) (mC c_a2):=let ⟨t,h⟩:=T.k_MOST_FIRST;zDN hg h (show RelV (.int 100) _ from ⟨t,rfl⟩) (fun _=>.int _)
theorem zE9 {X:Cx} {pos:Pos} (T:Tx X.w X.K X.mg fd) (hg:Gl X "MOST_SIZES":=by rfl):VE X (.Name "MOST_SIZES" pos) (mC c_a1):=let ⟨t,h⟩:=T.k_MOST_SIZES;zDN hg h (show RelV (.int 5) _ from ⟨t,rfl⟩) (fun _=>.int _)
theorem zE8 {X:Cx} {pos:Pos} (T:Tx X.w X.K X.mg fd) (hg:Gl X "MOST_TIMES":=by rfl):VE X (.Name "MOST_TIMES" pos) (mC c_a0):=let ⟨t,h⟩:=T.k_MOST_TIMES;zDN hg h (show RelV (.int 12) _ from ⟨t,rfl⟩) (fun _=>.int _)
theorem zCv {X:Cx} {pos:Pos} (T:Tx X.w X.K X.mg fd) (hg:Gl X "WEIGHT_UNITS":=by rfl):VE X (.Name "WEIGHT_UNITS" pos) (mC c_at):=zDN (v:=.ref (He.ga X.K "WEIGHT_UNITS")) hg T.k_WEIGHT_UNITS.1 rfl T.k_WEIGHT_UNITS.2
theorem zH1 (T:Tx w K mg fd):Binds K (fd 0) ["_law_script","_law_size"] []:=T.jAk.bindsN fun _ _ _ _ _ _ us hl=>match us,hl with|[_,_],_=>rfl
theorem zKM (T:Tx w K mg fd):Binds K (fd 1) ["_law_script","_law_k"] []:=T.jAi.bindsN fun _ _ _ _ _ _ us hl=>match us,hl with|[_,_],_=>rfl
theorem zCF (T:Tx w K mg fd):Binds K (fd 2) ["_law_box_here","_law_many"] []:=T.jAr.bindsN fun _ _ _ _ _ _ us hl=>match us,hl with|[_,_],_=>rfl
theorem zGf (T:Tx w K mg fd):Binds K (fd 3) ["_law_box_here"] []:=T.jAq.bindsN fun _ _ _ _ _ _ us hl=>match us,hl with|[_],_=>rfl
theorem zHu (T:Tx w K mg fd):Binds K (fd 4) ["_law_box_here","_law_many"] []:=T.jAs.bindsN fun _ _ _ _ _ _ us hl=>match us,hl with|[_,_],_=>rfl
theorem zA5 (T:Tx w K mg fd):Binds K (fd 5) ["sizes","amount"] []:=T.jAd.bindsN fun _ _ _ _ _ _ us hl=>match us,hl with|[_,_],_=>rfl
theorem zDT (T:Tx w K mg fd):Binds K (fd 6) ["_law_thing"] []:=T.jAj.bindsN fun _ _ _ _ _ _ us hl=>match us,hl with|[_],_=>rfl
theorem zDl (T:Tx w K mg fd):Binds K (fd 7) ["_law_found","_law_due"] []:=T.jAp.bindsN fun _ _ _ _ _ _ us hl=>match us,hl with|[_,_],_=>rfl
theorem zFI (T:Tx w K mg fd):Binds K (fd 8) ["_law_thing"] []:=T.jAm.bindsN fun _ _ _ _ _ _ us hl=>match us,hl with|[_],_=>rfl
theorem zFH (T:Tx w K mg fd):Binds K (fd 9) ["thing"] []:=T.jAv.bindsN fun _ _ _ _ _ _ us hl=>match us,hl with|[_],_=>rfl
theorem zFL (T:Tx w K mg fd):Binds K (fd 10) ["size","other"] []:=T.jAa.bindsN fun _ _ _ _ _ _ us hl=>match us,hl with|[_,_],_=>rfl
theorem zFK (T:Tx w K mg fd):Binds K (fd 11) ["thing"] []:=T.jAb.bindsN fun _ _ _ _ _ _ us hl=>match us,hl with|[_],_=>rfl
theorem zCW (T:Tx w K mg fd):Binds K (fd 12) ["weights","size"] []:=T.jAg.bindsN fun _ _ _ _ _ _ us hl=>match us,hl with|[_,_],_=>rfl
theorem zEl (T:Tx w K mg fd):Binds K (fd 13) ["number","units"] []:=T.jAh.bindsN fun _ _ _ _ _ _ us hl=>match us,hl with|[_,_],_=>rfl
theorem zFW (T:Tx w K mg fd):Binds K (fd 14) ["pounds"] []:=T.jAu.bindsN fun _ _ _ _ _ _ us hl=>match us,hl with|[_],_=>rfl
theorem zFJ (T:Tx w K mg fd):Binds K (fd 15) ["text"] []:=T.jAe.bindsN fun _ _ _ _ _ _ us hl=>match us,hl with|[_],_=>rfl
theorem zH2 (T:Tx w K mg fd):Binds K (fd 16) ["text","units"] []:=T.jAf.bindsN fun _ _ _ _ _ _ us hl=>match us,hl with|[_,_],_=>rfl
theorem zHt (T:Tx w K mg fd):Binds K (fd 17) ["text"] []:=T.jAt.bindsN fun _ _ _ _ _ _ us hl=>match us,hl with|[_],_=>rfl
theorem zEQ (T:Tx w K mg fd):Binds K (fd 18) ["_law_sizes_here","_law_amount"] []:=T.jAo.bindsN fun _ _ _ _ _ _ us hl=>match us,hl with|[_,_],_=>rfl
theorem zER (T:Tx w K mg fd):Binds K (fd 19) ["_law_box_here","_law_sizes_here"] []:=T.jAl.bindsN fun _ _ _ _ _ _ us hl=>match us,hl with|[_,_],_=>rfl
theorem zIP (T:Tx w K mg fd):Binds K (fd 20) ["_law_box_here"] []:=T.jAn.bindsN fun _ _ _ _ _ _ us hl=>match us,hl with|[_],_=>rfl
def zCP:MS:=(mAft [3,4] (mAsg (mOp gAdd (mOp gIx (zAc 2) (mOp gMod (zAc 3) (zAc 1))) (mOp gMul (zAc 4) (mOp gAdd (zAc 3) (mC (.int 2))))) (zHO 2 (mOp gMod (zAc 3) (zAc 1)))))
def zB0 (size:Int) (xx:(Int×Int)) (ss:(List Int)):Option (List Int):=
 (pMod xx.1 size).bind fun t2=>
 (pIx ss t2).bind fun t3=>
 (pMul xx.2 (xx.1+2)).bind fun t4=>
 (pMod xx.1 size).bind fun t5=>
 (pSet ss t5 (t3+t4)).bind fun cells6=>
 some cells6
theorem zGo (o0:Slot) (size:Int) (xx:(Int×Int)) (ss:(List Int)):((zCN (zAz (zAi 3) (zAz (zAi 4) zCA))) ((eT2 eI eI) xx) [o0,.val (eI size),.own (.lst (ss.map eI)),.no,.no]).bind zCP=(zB0 size xx ss).map (outN (fun ss:(List Int)=>[o0,.val (eI size),.own (.lst (ss.map eI)),.no,.no])):=c_W (by
 unfold zB0 zCP;walk_at "~af F";refine c_t (e2:=[o0,.val (eI size),.own (.lst (ss.map eI)),.val (eI xx.1),.no]) rfl ?_;walk_at "~F";refine c_t (e2:=[o0,.val (eI size),.own (.lst (ss.map eI)),.val (eI xx.1),.val (eI xx.2)]) rfl ?_;walk_at "~ag J aC d d v:1 d a:1 a:1 b:2";refine c_i zGh fun t2=>?_;walk_at "~b:2";refine c_i (x_ix (e:=eI) (l:=ss)) fun t3=>?_;walk_at "~d a:1 d a:1 c b:2";refine c_g zCq ?_
 walk_at "~b:2";refine c_i zE1 fun t4=>?_;walk_at "~b:2";refine c_g zCq ?_;walk_at "~j aB aK:1 d a:1 a:1 b:2";refine c_i zGh fun t5=>?_;refine c_aJ eI ss (t3+t4) (fun cells6=>[o0,.val (eI size),.own (.lst (cells6.map eI)),.val (eI xx.1),.val (eI xx.2)]) rfl (fun _=>rfl) fun cells6=>?_;refine c_G (e2:=[o0,.val (eI size),.own (.lst (cells6.map eI)),.no,.no]) rfl ?_;exact rfl)
def zEr:MS:=(mSeq (mSet 2 (mCB zIO (zAe (zFy 0 zCS (zEf (zAc 1))) mNil)))
  (mSeq (mBef [3,4] (mFor (zJq (zAe (mFrz (zFy 0 (zEf (zAc 1)) (zEf (mC (.int 63))))) mNil)) (zCN (zAz (zAi 3) (zAz (zAi 4) zCA))) zCP))
  (zAI [0,1,2,3,4] (zAc 2))))
def zCU:FM:=fmOf 2 5 zEr
theorem zHL (T:Tx w K mg fd):FnOk P w K mg base CX0 1 (He.ga K "_law_folded") (fd 0) ["_law_script","_law_size"] (spF K zCU):=
 zCk T.jAk sc_w_folded fun cdv A outer s H E hr=>(show VSs _ _ zEr from (zAg (zAM (i:=2) sc_w_folded.nd (zB7 call_list_of zHZ (by rfl) T.b_list (by decide+kernel) (zAb (zE6 0 zDL (zB6 (zAa 1))) zAf)))
   (zAg (zC1 (ws:=[3,4]) (zC0 PassesOwn.never (zLx T.b_enumerate (zAb (zAh (zE6 0 (zB6 (zAa 1)) (zB6 zAd))) zAf)) (zDV (zAE (zAo (j:=3) sc_w_folded.nd) (zAE (zAo (j:=4) sc_w_folded.nd) zCK)) (zAp (zAp zBo))) (zBM (ws:=[3,4]) (zAk (zGM (zAm zAW zAX (zAY ix_seq zAZ (zAa 2) (zAm op_mod zBR (zAa 3) (zAa 1)) (fun _ _=>rfl)) (zAm zBA zBB (zAa 4) (zAm zAW zAX (zAa 3) zAd))) (zI0 (i:=2) (zAm op_mod zBR (zAa 3) (zAa 1))))))))
   (zAk (zAl (zAa 2))))))
def zCI (script:List Int) (size:Int):Option (List Int):=
 (some (cutL script none (some size))).bind fun cells1=>
 (forP (zB0 size) (zGG 0 (cutL script (some size) (some 63))) cells1).bind fun s7=>
 some s7
theorem zIF (script:List Int) (size:Int):zCU [.scr script,.val (eI size)]=(zCI script size).map fun z=>(.new (.lst (z.map eI)),[.no,.no]):=by
 unfold zCU zEr zCI;refine c_D (oR:=fun z:(List Int)=>.new (.lst (z.map eI))) (eR:=fun z=>[.no,.no,.no,.no,.no]) [.scr script,.val (eI size),.no,.no,.no] rfl rfl ?_ (fun _=>rfl) (fun _=>by walk_at "ik") (fun _=>rfl)
 walk_at "~l u y e aP:1 am Q a:1 P h";refine c_x _ rfl ?_;refine c_g zHx ?_;refine c_au (τ:=Int) eI (cutL script none (some size)) (fun cells1=>[.scr script,.val (eI size),.own (.lst (cells1.map eI)),.no,.no]) (fun _=>rfl) fun cells1=>?_;walk_at "~k l";refine c_X (e2:=[.scr script,.val (eI size),.own (.lst (cells1.map eI)),.no,.no]) rfl ?_;walk_at "~U bz e m aP:1 Q a:1 P Q c P L h";refine c_by (l:=(cutL script (some size) (some 63))) (ec:=eI) rfl ?_
 refine c_ap (E:=fun sE:(List Int)=>[.scr script,.val (eI size),.own (.lst (sE.map eI)),.no,.no]) (zFF (E:=fun sE:(List Int)=>[.scr script,.val (eI size),.own (.lst (sE.map eI)),.no,.no]) (ec:=(eT2 eI eI)) (zGo (.scr script) size) _ cells1) fun s7=>?_;walk_at "~k q v:1";refine c_p (.new (.lst (s7.map eI))) rfl (e2:=[.no,.no,.no,.no,.no]) rfl ?_;exact rfl
def zHP:MS:=(mSeq (mSet 2 (mFrz (mIf (zAD (mOp (gCmp fun i j=>decide (i<j)) (zAc 1) (mCB gLen (zAe (zAc 0) mNil)))) (mOp gIx (zAc 0) (zAc 1)) (mC (.int 0)))))
  (zAI [0,1,2] (mLst (zAe (mFrz (mOp gMul (mCB (zJC fun i=>if i<0 then -i else i) (zAe (zAc 2) mNil)) (mCB gInt (zAe (mOp (gCmp fun i j=>decide (j≤i)) (mCB (zJC fun i=>if i<0 then -i else i) (zAe (zAc 2) mNil)) (mOp gPow (mC (.int 10)) (mC (.int 18)))) mNil)))) (zAe (mFrz (mOp gAdd (mOp gAdd (mOp gMul (mOp gMod (zAc 2) (mC (.int 2147483629))) (mC (.int 48271))) (mOp gMul (mC (.int 15485863)) (zAc 1))) (mC (.int 37)))) (zAe (mFrz (mC (.int 0))) mNil))))))
def zEX:FM:=fmOf 2 3 zHP
theorem zKl (T:Tx w K mg fd):FnOk P w K mg base CX0 1 (He.ga K "_law_box") (fd 1) ["_law_script","_law_k"] (spF K zEX):=
 zCk T.jAi sc_w_box fun cdv A outer s H E hr=>(show VSs _ _ zHP from (zAg (zAM (i:=2) sc_w_box.nd (zAh (zJ5 (zA0 op_lt (zBW (p:=fun i j=>decide (i<j))) (zAa 1) (zAH call_len zEK (by rfl) T.b_len PySem.boot_len (zAb (zAa 0) zAf)) (nomark _)) (zAY ix_seq zAZ (zAa 0) (zAa 1) (fun _ _=>rfl)) zAd)))
   (zAk (zAl (zEA (zAb (zAh (zAm zBA zBB (zAH call_abs (zJN (f:=fun i=>if i<0 then -i else i)) (by rfl) T.b_abs (by decide+kernel) (zAb (zAa 2) zAf)) (zB7 call_int1 zNs (by rfl) T.b_int (by decide+kernel) (zAb (zDB op_ge (zBW (p:=fun i j=>decide (j≤i))) (zAH call_abs (zJN (f:=fun i=>if i<0 then -i else i)) (by rfl) T.b_abs (by decide+kernel) (zAb (zAa 2) zAf)) (zAm op_pow zJg zAd zAd) (nomark _)) zAf)))) (zAb (zAh (zAm zAW zAX (zAm zAW zAX (zAm zBA zBB (zAm op_mod zBR (zAa 2) zAd) zAd) (zAm zBA zBB zAd (zAa 1))) zAd)) (zAb (zAh zAd) zAf))))))))
def zFN (script:(List Int)) (k:Int):Option (List Int):=
 (if decide (k<(script.length:Int))=true then
  (pIx script k).bind fun t1=>
  some t1
 else
  some 0).bind fun z2=>
 (pMul (absI z2) (if decide (1000000000000000000≤(absI z2))=true then 1 else 0)).bind fun t3=>
 some [t3,((((z2 % 2147483629)*48271)+(15485863*k))+37),0]
theorem zLG (script:(List Int)) (k:Int):zEX [.val ((eL eI) script),.val (eI k)]=(zFN script k).map fun z=>(.new (.lst (z.map eI)),[.no,.no]):=by
 unfold zEX zHP zFN;refine c_D (oR:=fun z:(List Int)=>.new (.lst (z.map eI))) (eR:=fun z=>[.no,.no,.no]) [.val ((eL eI) script),.val (eI k),.no] rfl rfl ?_ (fun _=>rfl) (fun _=>by walk_at "ik") (fun _=>rfl)
 walk_at "~l u m if o d a:1 y e a:1 h";refine c_x _ rfl ?_;refine c_g (zGK (e:=eI) (l:=script)) ?_;walk_at "~b:2";refine c_g zDy ?_;walk_at "~n";refine c_w (fun z2=>(.dat (eI z2),[.val ((eL eI) script),.val (eI k),.no])) ?_ ?_ fun z2=>?_
 ·refine c_d ?_
  walk_at "~a:1 a:1 b:2";refine c_i (x_ix (e:=eI) (l:=script)) fun t1=>?_;exact rfl
 ·refine c_c ?_
  exact rfl
 walk_at "~j";refine c_K (e2:=[.val ((eL eI) script),.val (eI k),.val (eI z2)]) rfl ?_;walk_at "~k q ai e m d y e a:1 h";refine c_x _ rfl ?_;refine c_g zKU ?_;walk_at "~y e d y e a:1 h";refine c_x _ rfl ?_;refine c_g zKU ?_;walk_at "~d c c b:2";refine c_g (v:=.dat (.int 1000000000000000000)) rfl ?_;walk_at "~b:2";refine c_g zDy ?_;walk_at "~h";refine c_x _ rfl ?_;refine c_g zMs ?_;walk_at "~b:2";refine c_i zE1 fun t3=>?_
 walk_at "~j e m d d d d a:1 c b:2";refine c_g (zEy (by decide)) ?_
 walk_at "~c b:2";refine c_g (zKS (by decide)) ?_
 walk_at "~d c a:1 b:2";refine c_g (zH3 (by decide)) ?_
 walk_at "~b:2";refine c_g zCq ?_;walk_at "~c b:2";refine c_g zCq ?_;walk_at "~j e m c j h";refine c_ah ([t3,((((z2 % 2147483629)*48271)+(15485863*k))+37),0].map eI) rfl (oP rfl) ?_;refine c_p (.new (.lst ([t3,((((z2 % 2147483629)*48271)+(15485863*k))+37),0].map eI))) rfl (e2:=[.no,.no,.no]) rfl ?_;exact rfl
def zGC:MS:=(mSeq (mIfS (zAD (mOp (gCmp fun i j=>decide (j<i)) (mOp gIx (zAc 0) (mC (.int 0))) (mC (.int 0)))) (mSeq (mSet 5 (mOp gMod (mOp gIx (zAc 0) (mC (.int 0))) (zAc 1)))
  (mSeq (mAsg (mOp gDiv (mOp gIx (zAc 0) (mC (.int 0))) (zAc 1)) (zHO 0 (mC (.int 0))))
  (zAI [1,2,3,4,5] (zAc 5)))) zBF)
  (mSeq (mAsg (mOp gAdd (mOp gIx (zAc 0) (mC (.int 2))) (mC (.int 1))) (zHO 0 (mC (.int 2))))
  (mSeq (mSet 2 (mFrz (mOp gAdd (mC (.int 69621)) (mOp gMul (mOp gIx (zAc 0) (mC (.int 2))) (mOp gIx (zAc 0) (mC (.int 2)))))))
  (mSeq (mSet 3 (mFrz (mOp gMod (mOp gMul (mOp gAdd (mOp gIx (zAc 0) (mC (.int 1))) (mOp gMul (mC (.int 39373)) (mOp gIx (zAc 0) (mC (.int 2))))) (zAc 2)) (mC (.int 2147483587)))))
  (mSeq (mSet 4 (mFrz (mOp gMod (mOp gAdd (mOp gMul (zAc 3) (mOp gAdd (mOp gMod (zAc 3) (mC (.int 30011))) (mC (.int 5)))) (mOp gIx (zAc 0) (mC (.int 2)))) (mC (.int 2147483563)))))
  (zAI [1,2,3,4,5] (mOp gMod (mOp gDiv (mOp gMod (mOp gMul (zAc 4) (mOp gAdd (mOp gMod (zAc 4) (mC (.int 1013))) (mC (.int 3)))) (mC (.int 998244353))) (mC (.int 16))) (zAc 1))))))))
def zBs:FM:=fmOf 2 6 zGC
theorem zCz (T:Tx w K mg fd):FnOk P w K mg base CX0 1 (He.ga K "_law_take") (fd 2) ["_law_box_here","_law_many"] (spF K zBs):=
 zCk T.jAr sc_w_take fun cdv A outer s H E hr=>(show VSs _ _ zGC from (zAg (zBX (zA0 op_gt (zBW (p:=fun i j=>decide (j<i))) (zAY ix_seq zAZ (zAa 0) zAd (fun _ _=>rfl)) zAd (nomark _)) (zAg (zAM (i:=5) sc_w_take.nd (zAm op_mod zBR (zAY ix_seq zAZ (zAa 0) zAd (fun _ _=>rfl)) (zAa 1)))
   (zAg (zGM (zAm op_fdiv zC5 (zAY ix_seq zAZ (zAa 0) zAd (fun _ _=>rfl)) (zAa 1)) (zI0 (i:=0) zAd))
   (zAk (zAl (zAa 5))))) zAU)
   (zAg (zGM (zAm zAW zAX (zAY ix_seq zAZ (zAa 0) zAd (fun _ _=>rfl)) zAd) (zI0 (i:=0) zAd))
   (zAg (zAM (i:=2) sc_w_take.nd (zAh (zAm zAW zAX zAd (zAm zBA zBB (zAY ix_seq zAZ (zAa 0) zAd (fun _ _=>rfl)) (zAY ix_seq zAZ (zAa 0) zAd (fun _ _=>rfl))))))
   (zAg (zAM (i:=3) sc_w_take.nd (zAh (zAm op_mod zBR (zAm zBA zBB (zAm zAW zAX (zAY ix_seq zAZ (zAa 0) zAd (fun _ _=>rfl)) (zAm zBA zBB zAd (zAY ix_seq zAZ (zAa 0) zAd (fun _ _=>rfl)))) (zAa 2)) zAd)))
   (zAg (zAM (i:=4) sc_w_take.nd (zAh (zAm op_mod zBR (zAm zAW zAX (zAm zBA zBB (zAa 3) (zAm zAW zAX (zAm op_mod zBR (zAa 3) zAd) zAd)) (zAY ix_seq zAZ (zAa 0) zAd (fun _ _=>rfl))) zAd)))
   (zAk (zAl (zAm op_mod zBR (zAm op_fdiv zC5 (zAm op_mod zBR (zAm zBA zBB (zAa 4) (zAm zAW zAX (zAm op_mod zBR (zAa 4) zAd) zAd)) zAd) zAd) (zAa 1))))))))))
def zBL (box:(List Int)) (many:Int):Option (Int×(List Int)):=
 (pIx box 0).bind fun t1=>
 if decide (0<t1)=true then
  (pIx box 0).bind fun t2=>
  (pMod t2 many).bind fun t3=>
  (pIx box 0).bind fun t4=>
  (pDiv t4 many).bind fun t5=>
  (pSet box 0 t5).bind fun box6=>
  some (t3,box6)
 else
  (pIx box 2).bind fun t7=>
  (pSet box 2 (t7+1)).bind fun box8=>
  (pIx box8 2).bind fun t9=>
  (pIx box8 2).bind fun t10=>
  (pMul t9 t10).bind fun t11=>
  (some (69621+t11)).bind fun step12=>
  (pIx box8 1).bind fun t13=>
  (pIx box8 2).bind fun t14=>
  (pMul (t13+(39373*t14)) step12).bind fun t15=>
  (some (t15 % 2147483587)).bind fun once16=>
  (pMul once16 ((once16 % 30011)+5)).bind fun t17=>
  (pIx box8 2).bind fun t18=>
  (some ((t17+t18) % 2147483563)).bind fun twice19=>
  (pMul twice19 ((twice19 % 1013)+3)).bind fun t20=>
  (pMod ((t20 % 998244353) / 16) many).bind fun t21=>
  some (t21,box8)
theorem zDr (box:(List Int)) (many:Int):zBs [.io 0 (.lst (box.map eI)),.val (eI many)]=(zBL box many).map fun z=>(.dat (eI z.1),[.io 0 (.lst (z.2.map eI)),.no]):=by
 unfold zBs zGC zBL;refine c_D (oR:=fun z:(Int×(List Int))=>.dat (eI z.1)) (eR:=fun z=>[.io 0 (.lst (z.2.map eI)),.no,.no,.no,.no,.no]) [.io 0 (.lst (box.map eI)),.val (eI many),.no,.no,.no,.no] rfl rfl ?_ (fun _=>rfl) (fun _=>by walk_at "ik") (fun _=>rfl)
 walk_at "~l B o d d A:1 c b:2";refine c_i (x_ix (e:=eI) (l:=box)) fun t1=>?_;walk_at "~c b:2";refine c_g zDy ?_;walk_at "~n";refine c_C ?_ ?_
 ·refine c_l ?_
  walk_at "~u d d A:1 c b:2";refine c_i (x_ix (e:=eI) (l:=box)) fun t2=>?_;walk_at "~a:1 b:2";refine c_i zGh fun t3=>?_;refine c_K (e2:=[.io 0 (.lst (box.map eI)),.val (eI many),.no,.no,.no,.val (eI t3)]) rfl ?_;walk_at "~k l aC d d A:1 c b:2";refine c_i (x_ix (e:=eI) (l:=box)) fun t4=>?_;walk_at "~a:1 b:2";refine c_i zFP fun t5=>?_;walk_at "~j aB aK:1 c";refine c_aJ eI box t5 (fun box6=>[.io 0 (.lst (box6.map eI)),.val (eI many),.no,.no,.no,.val (eI t3)]) rfl (fun _=>rfl) fun box6=>?_
  walk_at "~k q a:1";refine c_p (.dat (eI t3)) rfl (e2:=[.io 0 (.lst (box6.map eI)),.no,.no,.no,.no,.no]) rfl ?_;walk_at "~E";exact rfl
 ·refine c_z ?_
  walk_at "~k l aC d d A:1 c b:2";refine c_i (x_ix (e:=eI) (l:=box)) fun t7=>?_;walk_at "~c b:2";refine c_g zCq ?_;walk_at "~j aB aK:1 c";refine c_aJ eI box (t7+1) (fun box8=>[.io 0 (.lst (box8.map eI)),.val (eI many),.no,.no,.no,.no]) rfl (fun _=>rfl) fun box8=>?_;walk_at "~k l u m d c d d A:1 c b:2";refine c_i (x_ix (e:=eI) (l:=box8)) fun t9=>?_;walk_at "~d A:1 c b:2";refine c_i (x_ix (e:=eI) (l:=box8)) fun t10=>?_
  walk_at "~b:2";refine c_i zE1 fun t11=>?_;walk_at "~b:2";refine c_g zCq ?_;walk_at "~j";refine c_al (τ:=Int) eI (69621+t11) (fun step12=>[.io 0 (.lst (box8.map eI)),.val (eI many),.val (eI step12),.no,.no,.no]) (fun _=>rfl) fun step12=>?_;walk_at "~k l u m d d d d A:1 c b:2";refine c_i (x_ix (e:=eI) (l:=box8)) fun t13=>?_;walk_at "~d c d A:1 c b:2";refine c_i (x_ix (e:=eI) (l:=box8)) fun t14=>?_
  walk_at "~b:2";refine c_g (zH3 (by decide)) ?_
  walk_at "~b:2";refine c_g zCq ?_;walk_at "~a:1 b:2";refine c_i zE1 fun t15=>?_;walk_at "~c b:2";refine c_g (zEy (by decide)) ?_
  walk_at "~j";refine c_al (τ:=Int) eI (t15 % 2147483587) (fun once16=>[.io 0 (.lst (box8.map eI)),.val (eI many),.val (eI step12),.val (eI once16),.no,.no]) (fun _=>rfl) fun once16=>?_;walk_at "~k l u m d d d a:1 d d a:1 c b:2";refine c_g (zEy (by decide)) ?_
  walk_at "~c b:2";refine c_g zCq ?_;walk_at "~b:2";refine c_i zE1 fun t17=>?_;walk_at "~d A:1 c b:2";refine c_i (x_ix (e:=eI) (l:=box8)) fun t18=>?_;walk_at "~b:2";refine c_g zCq ?_;walk_at "~c b:2";refine c_g (zEy (by decide)) ?_
  walk_at "~j";refine c_al (τ:=Int) eI ((t17+t18) % 2147483563) (fun twice19=>[.io 0 (.lst (box8.map eI)),.val (eI many),.val (eI step12),.val (eI once16),.val (eI twice19),.no]) (fun _=>rfl) fun twice19=>?_;walk_at "~k q d d d d a:1 d d a:1 c b:2";refine c_g (zEy (by decide)) ?_
  walk_at "~c b:2";refine c_g zCq ?_;walk_at "~b:2";refine c_i zE1 fun t20=>?_;walk_at "~c b:2";refine c_g (zEy (by decide)) ?_
  walk_at "~c b:2";refine c_g (zMB (by decide)) ?_
  walk_at "~a:1 b:2";refine c_i zGh fun t21=>?_;refine c_p (.dat (eI t21)) rfl (e2:=[.io 0 (.lst (box8.map eI)),.no,.no,.no,.no,.no]) rfl ?_;exact rfl
def zC7:MS:=(mAft [2] (zEO (mMut 1 fApp (zAe (mFrz (mOp gMul (mOp gIx (zAc 1) (mUn gNeg (mC (.int 1)))) (mOp gIx (mLst (zAe (mFrz (mC (.int 2))) (zAe (mFrz (mC (.int 2))) (zAe (mFrz (mC (.int 3))) (zAe (mFrz (mOp gAdd (mC (.int 2)) (zAs zBs (some 0) (zAe (zAc 0) (zAe (mC (.int 11)) mNil))))) mNil))))) (zAs zBs (some 0) (zAe (zAc 0) (zAe (mC (.int 4)) mNil)))))) mNil))))
def zCo (xx:Int) (ss:((List Int)×(List Int))):Option ((List Int)×(List Int)):=
 (pIx ss.2 (-1)).bind fun t7=>
 (zBL ss.1 11).bind fun r8=>
 (zBL r8.2 4).bind fun r9=>
 (pIx [2,2,3,(2+r8.1)] r9.1).bind fun t10=>
 (pMul t7 t10).bind fun t11=>
 (pApp ss.2 t11).bind fun found12=>
 some (r9.2,found12)
theorem zGQ (xx:Int) (ss:((List Int)×(List Int))):((zAi 2) (eI xx) [.io 0 (.lst (ss.1.map eI)),.own (.lst (ss.2.map eI)),.no]).bind zC7=(zCo xx ss).map (outN (fun ss:((List Int)×(List Int))=>[.io 0 (.lst (ss.1.map eI)),.own (.lst (ss.2.map eI)),.no])):=c_W (by
 unfold zCo zC7;refine c_t (e2:=[.io 0 (.lst (ss.1.map eI)),.own (.lst (ss.2.map eI)),.val (eI xx)]) rfl ?_;walk_at "~J an ax:1 e m d d v:1 O c N:1";refine c_g zE0 ?_;walk_at "~b:2";refine c_i (x_ix (e:=eI) (l:=ss.2)) fun t7=>?_;walk_at "~d ai e m c j e m c j e m c j e m d c s e A:1 e c h";refine c_r (bk:=fun r8=>[.io 0 (.lst (r8.2.map eI)),.own (.lst (ss.2.map eI)),.val (eI xx)]) rfl rfl (zDr ss.1 11) (fun _=>by walk_at "fl") (fun _=>rfl) fun r8=>?_
 walk_at "~b:2";refine c_g zCq ?_;walk_at "~j h";refine c_ah ([2,2,3,(2+r8.1)].map eI) rfl (oP rfl) ?_;walk_at "~s e A:1 e c h";refine c_r (bk:=fun r9=>[.io 0 (.lst (r9.2.map eI)),.own (.lst (ss.2.map eI)),.val (eI xx)]) rfl rfl (zDr r8.2 4) (fun _=>by walk_at "fl") (fun _=>rfl) fun r9=>?_
 walk_at "~b:2";refine c_i (x_ix (e:=eI) (l:=[2,2,3,(2+r8.1)])) fun t10=>?_;walk_at "~b:2";refine c_i zE1 fun t11=>?_;walk_at "~j h";refine c_aw [eI t11] (ss.2.map eI) (fun found12=>[.io 0 (.lst (r9.2.map eI)),.own (.lst (found12.map eI)),.val (eI xx)]) rfl rfl (zMC (e:=eI) (l:=ss.2) (x:=t11)) (fun _=>rfl) fun found12=>?_;refine c_G (e2:=[.io 0 (.lst (r9.2.map eI)),.own (.lst (found12.map eI)),.no]) rfl ?_
 exact rfl)
def zFv:MS:=(mSeq (mSet 1 (mLst (zAe (mFrz (mOp gAdd (mC (.int 1)) (zAs zBs (some 0) (zAe (zAc 0) (zAe (mOp gIx (mLst (zAe (mFrz (mC (.int 1))) (zAe (mFrz (mC (.int 7))) (zAe (mFrz (mC (.int 100))) mNil)))) (zAs zBs (some 0) (zAe (zAc 0) (zAe (mC (.int 3)) mNil)))) mNil))))) mNil)))
  (mSeq (mBef [2] (mFor (zDd (zAe (zAs zBs (some 0) (zAe (zAc 0) (zAe (mC (.int 5)) mNil))) mNil)) (zAi 2) zC7))
  (zAI [1,2] (zAc 1))))
def zCE:FM:=fmOf 1 3 zFv
theorem zF3 (T:Tx w K mg fd):FnOk P w K mg base CX0 2 (He.ga K "_law_sizes") (fd 3) ["_law_box_here"] (spF K zCE):=
 zCk T.jAq sc_w_sizes fun cdv A outer s H E hr=>(show VSs _ _ zFv from (zAg (zAM (i:=1) sc_w_sizes.nd (zEA (zAb (zAh (zAm zAW zAX zAd (zAj (some 0) (FnOk.mono (zCz T) (by decide)) hr T.jAM T.jAr.kp (zCF T) (zAb (zAa 0) (zAb (zAY ix_seq zAZ (zEA (zAb (zAh zAd) (zAb (zAh zAd) (zAb (zAh zAd) zAf)))) (zAj (some 0) (FnOk.mono (zCz T) (by decide)) hr T.jAM T.jAr.kp (zCF T) (zAb (zAa 0) (zAb zAd zAf))) (fun _ _=>rfl)) zAf))))) zAf)))
   (zAg (zC1 (ws:=[2]) (zC0 PassesOwn.never (zDU T.b_range (zAb (zAj (some 0) (FnOk.mono (zCz T) (by decide)) hr T.jAM T.jAr.kp (zCF T) (zAb (zAa 0) (zAb zAd zAf))) zAf)) (zAo (j:=2) sc_w_sizes.nd) (zBM (ws:=[2]) (zAk (zEm (zH8 (i:=1) PySem.F.slot_list_append PySem.F.type_list_append mt_append zHc (zAb (zAh (zAm zBA zBB (zAY ix_seq zAZ (zAa 1) (zE4 un_neg zC2 zAd) (fun _ _=>rfl)) (zAY ix_seq zAZ (zEA (zAb (zAh zAd) (zAb (zAh zAd) (zAb (zAh zAd) (zAb (zAh (zAm zAW zAX zAd (zAj (some 0) (FnOk.mono (zCz T) (by decide)) hr T.jAM T.jAr.kp (zCF T) (zAb (zAa 0) (zAb zAd zAf))))) zAf))))) (zAj (some 0) (FnOk.mono (zCz T) (by decide)) hr T.jAM T.jAr.kp (zCF T) (zAb (zAa 0) (zAb zAd zAf))) (fun _ _=>rfl)))) zAf)))))))
   (zAk (zAl (zAa 1))))))
def zCH (box:(List Int)):Option ((List Int)×(List Int)):=
 (zBL box 3).bind fun r1=>
 (pIx [1,7,100] r1.1).bind fun t2=>
 (zBL r1.2 t2).bind fun r3=>
 (some [(1+r3.1)]).bind fun found4=>
 (zBL r3.2 5).bind fun r5=>
 (pRng r5.1).bind fun l6=>
 (forP (zCo) l6 (r5.2,found4)).bind fun s13=>
 some (s13.2,s13.1)
theorem zGX (box:(List Int)):zCE [.io 0 (.lst (box.map eI))]=(zCH box).map fun z=>(.new (.lst (z.1.map eI)),[.io 0 (.lst (z.2.map eI))]):=by
 unfold zCE zFv zCH;refine c_D (oR:=fun z:((List Int)×(List Int))=>.new (.lst (z.1.map eI))) (eR:=fun z=>[.io 0 (.lst (z.2.map eI)),.no,.no]) [.io 0 (.lst (box.map eI)),.no,.no] rfl rfl ?_ (fun _=>rfl) (fun _=>by walk_at "ik") (fun _=>rfl)
 walk_at "~l u ai e m d c s e A:1 e d ai e m c j e m c j e m c j h";refine c_ah ([1,7,100].map eI) rfl (oP rfl) ?_;walk_at "~s e A:1 e c h";refine c_r (bk:=fun r1=>[.io 0 (.lst (r1.2.map eI)),.no,.no]) rfl rfl (zDr box 3) (fun _=>by walk_at "fl") (fun _=>rfl) fun r1=>?_
 walk_at "~b:2";refine c_i (x_ix (e:=eI) (l:=[1,7,100])) fun t2=>?_;walk_at "~h";refine c_r (bk:=fun r3=>[.io 0 (.lst (r3.2.map eI)),.no,.no]) rfl rfl (zDr r1.2 t2) (fun _=>by walk_at "fl") (fun _=>rfl) fun r3=>?_
 walk_at "~b:2";refine c_g zCq ?_;walk_at "~j h";refine c_ah ([(1+r3.1)].map eI) rfl (oP rfl) ?_;refine c_au (τ:=Int) eI [(1+r3.1)] (fun found4=>[.io 0 (.lst (r3.2.map eI)),.own (.lst (found4.map eI)),.no]) (fun _=>rfl) fun found4=>?_;walk_at "~k l";refine c_X (e2:=[.io 0 (.lst (r3.2.map eI)),.own (.lst (found4.map eI)),.no]) rfl ?_;walk_at "~U aE e s e A:1 e c h";refine c_r (bk:=fun r5=>[.io 0 (.lst (r5.2.map eI)),.own (.lst (found4.map eI)),.no]) rfl rfl (zDr r3.2 5) (fun _=>by walk_at "fl") (fun _=>rfl) fun r5=>?_
 walk_at "~h";refine c_aD rfl fun l6=>?_;refine c_ap (E:=fun sE:((List Int)×(List Int))=>[.io 0 (.lst (sE.1.map eI)),.own (.lst (sE.2.map eI)),.no]) (zFF (E:=fun sE:((List Int)×(List Int))=>[.io 0 (.lst (sE.1.map eI)),.own (.lst (sE.2.map eI)),.no]) (ec:=eI) (zGQ) _ (r5.2,found4)) fun s13=>?_;walk_at "~k q v:1";refine c_p (.new (.lst (s13.2.map eI))) rfl (e2:=[.io 0 (.lst (s13.1.map eI)),.no,.no]) rfl ?_
 exact rfl
def zDS:MS:=(mAft [3] (mSet 2 (mFrz (mOp gAdd (mOp gMul (zAc 2) (mOp gPow (mC (.int 10)) (mC (.int 9)))) (zAs zBs (some 0) (zAe (zAc 0) (zAe (mOp gPow (mC (.int 10)) (mC (.int 9))) mNil)))))))
def zCY (xx:Int) (ss:((List Int)×Int)):Option ((List Int)×Int):=
 (zBL ss.1 1000000000).bind fun r2=>
 (some ((ss.2*1000000000)+r2.1)).bind fun found3=>
 some (r2.2,found3)
theorem zHF (o1:Slot) (xx:Int) (ss:((List Int)×Int)):((zAi 3) (eI xx) [.io 0 (.lst (ss.1.map eI)),o1,.val (eI ss.2),.no]).bind zDS=(zCY xx ss).map (outN (fun ss:((List Int)×Int)=>[.io 0 (.lst (ss.1.map eI)),o1,.val (eI ss.2),.no])):=c_W (by
 unfold zCY zDS;refine c_t (e2:=[.io 0 (.lst (ss.1.map eI)),o1,.val (eI ss.2),.val (eI xx)]) rfl ?_;walk_at "~J u m d d a:1 d c c b:2";refine c_g (v:=.dat (.int 1000000000)) rfl ?_;walk_at "~b:2";refine c_g (zKS (by decide)) ?_
 walk_at "~s e A:1 e d c c b:2";refine c_g (v:=.dat (.int 1000000000)) rfl ?_;walk_at "~h";refine c_r (bk:=fun r2=>[.io 0 (.lst (r2.2.map eI)),o1,.val (eI ss.2),.val (eI xx)]) rfl rfl (zDr ss.1 1000000000) (fun _=>by walk_at "fl") (fun _=>rfl) fun r2=>?_
 walk_at "~b:2";refine c_g zCq ?_;walk_at "~j";refine c_al (τ:=Int) eI ((ss.2*1000000000)+r2.1) (fun found3=>[.io 0 (.lst (r2.2.map eI)),o1,.val (eI found3),.val (eI xx)]) (fun _=>rfl) fun found3=>?_;refine c_G (e2:=[.io 0 (.lst (r2.2.map eI)),o1,.val (eI found3),.no]) rfl ?_;exact rfl)
def zGB:MS:=(mSeq (mSet 2 (mFrz (mC (.int 0))))
  (mSeq (mBef [3] (mFor (zDd (zAe (mC (.int 4)) mNil)) (zAi 3) zDS))
  (zAI [1,2,3] (mOp gMod (zAc 2) (zAc 1)))))
def zDi:FM:=fmOf 2 4 zGB
theorem zG7 (T:Tx w K mg fd):FnOk P w K mg base CX0 2 (He.ga K "_law_wide") (fd 4) ["_law_box_here","_law_many"] (spF K zDi):=
 zCk T.jAs sc_w_wide fun cdv A outer s H E hr=>(show VSs _ _ zGB from (zAg (zAM (i:=2) sc_w_wide.nd (zAh zAd))
   (zAg (zC1 (ws:=[3]) (zC0 PassesOwn.never (zDU T.b_range (zAb zAd zAf)) (zAo (j:=3) sc_w_wide.nd) (zBM (ws:=[3]) (zAk (zAM (i:=2) sc_w_wide.nd (zAh (zAm zAW zAX (zAm zBA zBB (zAa 2) (zAm op_pow zJg zAd zAd)) (zAj (some 0) (FnOk.mono (zCz T) (by decide)) hr T.jAM T.jAr.kp (zCF T) (zAb (zAa 0) (zAb (zAm op_pow zJg zAd zAd) zAf))))))))))
   (zAk (zAl (zAm op_mod zBR (zAa 2) (zAa 1)))))))
def zDx (box:(List Int)) (many:Int):Option (Int×(List Int)):=
 (pRng 4).bind fun l1=>
 (forP (zCY) l1 (box,0)).bind fun s4=>
 (pMod s4.2 many).bind fun t5=>
 some (t5,s4.1)
theorem zIc (box:(List Int)) (many:Int):zDi [.io 0 (.lst (box.map eI)),.val (eI many)]=(zDx box many).map fun z=>(.dat (eI z.1),[.io 0 (.lst (z.2.map eI)),.no]):=by
 unfold zDi zGB zDx;refine c_D (oR:=fun z:(Int×(List Int))=>.dat (eI z.1)) (eR:=fun z=>[.io 0 (.lst (z.2.map eI)),.no,.no,.no]) [.io 0 (.lst (box.map eI)),.val (eI many),.no,.no] rfl rfl ?_ (fun _=>rfl) (fun _=>by walk_at "ik") (fun _=>rfl)
 walk_at "~l u m c j";refine c_K (e2:=[.io 0 (.lst (box.map eI)),.val (eI many),.val (eI 0),.no]) rfl ?_;walk_at "~k l";refine c_X (e2:=[.io 0 (.lst (box.map eI)),.val (eI many),.val (eI 0),.no]) rfl ?_;walk_at "~U aE e c h";refine c_aD rfl fun l1=>?_;refine c_ap (E:=fun sE:((List Int)×Int)=>[.io 0 (.lst (sE.1.map eI)),.val (eI many),.val (eI sE.2),.no]) (zFF (E:=fun sE:((List Int)×Int)=>[.io 0 (.lst (sE.1.map eI)),.val (eI many),.val (eI sE.2),.no]) (ec:=eI) (zHF (.val (eI many))) _ (box,0)) fun s4=>?_
 walk_at "~k q d a:1 a:1 b:2";refine c_i zGh fun t5=>?_;refine c_p (.dat (eI t5)) rfl (e2:=[.io 0 (.lst (s4.1.map eI)),.no,.no,.no]) rfl ?_;exact rfl
def zCf:MS:=(mAft [4] (mSeq (zEO (mMut 3 fExt (zAe (mFrz (mOp gMul (mLst (zAe (mFrz (zAc 4)) mNil)) (mOp gDiv (zAc 2) (zAc 4)))) mNil)))
  (mSet 2 (mFrz (mOp gMod (zAc 2) (zAc 4))))))
def zAt (xx:Int) (ss:(Int×(List Int))):Option (Int×(List Int)):=
 (pDiv ss.1 xx).bind fun t5=>
 (pRep [xx] t5).bind fun t6=>
 (pCat ss.2 t6).bind fun found7=>
 (pMod ss.1 xx).bind fun t8=>
 some (t8,found7)
theorem zFk (o0:Slot) (o1:Slot) (xx:Int) (ss:(Int×(List Int))):((zAi 4) (eI xx) [o0,o1,.val (eI ss.1),.own (.lst (ss.2.map eI)),.no]).bind zCf=(zAt xx ss).map (outN (fun ss:(Int×(List Int))=>[o0,o1,.val (eI ss.1),.own (.lst (ss.2.map eI)),.no])):=c_W (by
 unfold zAt zCf;refine c_t (e2:=[o0,o1,.val (eI ss.1),.own (.lst (ss.2.map eI)),.val (eI xx)]) rfl ?_;walk_at "~J l an ax:1 e m d ai e m a:1 j h";refine c_ah ([xx].map eI) rfl (oP rfl) ?_;walk_at "~d a:1 a:1 b:2";refine c_i zFP fun t5=>?_;walk_at "~b:2";refine c_i (x_rep (e:=eI)) fun t6=>?_;walk_at "~L h";refine c_aw [.list (t6.map eI)] (ss.2.map eI) (fun found7=>[o0,o1,.val (eI ss.1),.own (.lst (found7.map eI)),.val (eI xx)]) rfl rfl (zMu (e:=eI) (l:=ss.2) (l':=t6)) (fun _=>rfl) fun found7=>?_
 walk_at "~k u m d a:1 a:1 b:2";refine c_i zGh fun t8=>?_;walk_at "~j";refine c_K (e2:=[o0,o1,.val (eI t8),.own (.lst (found7.map eI)),.val (eI xx)]) rfl ?_;refine c_G (e2:=[o0,o1,.val (eI t8),.own (.lst (found7.map eI)),.no]) rfl ?_;exact rfl)
def zDc:MS:=(mSeq (mSet 2 (mFrz (mOp gAdd (zAc 1) (mOp gMod (mUn gNeg (zAc 1)) (mOp gIx (zAc 0) (mC (.int 0)))))))
  (mSeq (mSet 3 (mLst mNil))
  (mSeq (mBef [4] (mFor (mRev (zAe (mFrz (zAc 0)) mNil)) (zAi 4) zCf))
  (zAI [0,1,2,3,4] (zAc 3)))))
def zAF:FM:=fmOf 2 5 zDc
theorem zA4 (T:Tx w K mg fd):FnOk P w K mg base CX0 1 (He.ga K "parcels_of") (fd 5) ["sizes","amount"] (spF K zAF):=
 zCk T.jAd sc_parcels_of fun cdv A outer s H E hr=>(show VSs _ _ zDc from (zAg (zAM (i:=2) sc_parcels_of.nd (zAh (zAm zAW zAX (zAa 1) (zAm op_mod zBR (zE4 un_neg zC2 (zAa 1)) (zAY ix_seq zAZ (zAa 0) zAd (fun _ _=>rfl))))))
   (zAg (zAM (i:=3) sc_parcels_of.nd (zEA zAf))
   (zAg (zC1 (ws:=[4]) (zC0 PassesOwn.never (zMG T.b_reversed (zAb (zAh (zAa 0)) zAf)) (zAo (j:=4) sc_parcels_of.nd) (zBM (ws:=[4]) (zAg (zEm (zH8 (i:=3) PySem.F.slot_list_extend PySem.F.type_list_extend mt_extend zHb (zAb (zAh (zAm zBA zBB (zEA (zAb (zAh (zAa 4)) zAf)) (zAm op_fdiv zC5 (zAa 2) (zAa 4)))) zAf)))
   (zAk (zAM (i:=2) sc_parcels_of.nd (zAh (zAm op_mod zBR (zAa 2) (zAa 4)))))))))
   (zAk (zAl (zAa 3)))))))
def zAr (sizes:(List Int)) (amount:Int):Option (List Int):=
 (pIx sizes 0).bind fun t1=>
 (pMod (-amount) t1).bind fun t2=>
 (some (amount+t2)).bind fun left3=>
 (some ([]:(List Int))).bind fun found4=>
 (forP (zAt) sizes.reverse (left3,found4)).bind fun s9=>
 some s9.2
theorem zBi (sizes:(List Int)) (amount:Int):zAF [.val ((eL eI) sizes),.val (eI amount)]=(zAr sizes amount).map fun z=>(.new (.lst (z.map eI)),[.no,.no]):=by
 unfold zAF zDc zAr;refine c_D (oR:=fun z:(List Int)=>.new (.lst (z.map eI))) (eR:=fun z=>[.no,.no,.no,.no,.no]) [.val ((eL eI) sizes),.val (eI amount),.no,.no,.no] rfl rfl ?_ (fun _=>rfl) (fun _=>by walk_at "ik") (fun _=>rfl)
 walk_at "~l u m d a:1 d O a:1 N:1";refine c_g zE0 ?_;walk_at "~d a:1 c b:2";refine c_i (x_ix (e:=eI) (l:=sizes)) fun t1=>?_;walk_at "~b:2";refine c_i zGh fun t2=>?_;walk_at "~b:2";refine c_g zCq ?_;walk_at "~j";refine c_al (τ:=Int) eI (amount+t2) (fun left3=>[.val ((eL eI) sizes),.val (eI amount),.val (eI left3),.no,.no]) (fun _=>rfl) fun left3=>?_;walk_at "~k l u ai h";refine c_ah (([]:List Int).map eI) rfl (oP rfl) ?_
 refine c_au (τ:=Int) eI ([]:(List Int)) (fun found4=>[.val ((eL eI) sizes),.val (eI amount),.val (eI left3),.own (.lst (found4.map eI)),.no]) (fun _=>rfl) fun found4=>?_;walk_at "~k l";refine c_X (e2:=[.val ((eL eI) sizes),.val (eI amount),.val (eI left3),.own (.lst (found4.map eI)),.no]) rfl ?_;walk_at "~U bj e m a:1 j h";refine c_bi (l:=sizes) (ec:=eI) rfl ?_;refine c_ap (E:=fun sE:(Int×(List Int))=>[.val ((eL eI) sizes),.val (eI amount),.val (eI sE.1),.own (.lst (sE.2.map eI)),.no]) (zFF (E:=fun sE:(Int×(List Int))=>[.val ((eL eI) sizes),.val (eI amount),.val (eI sE.1),.own (.lst (sE.2.map eI)),.no]) (ec:=eI) (zFk (.val ((eL eI) sizes)) (.val (eI amount))) _ (left3,found4)) fun s9=>?_
 walk_at "~k q v:1";refine c_p (.new (.lst (s9.2.map eI))) rfl (e2:=[.no,.no,.no,.no,.no]) rfl ?_;exact rfl
def zEb (fm:FM):ME:=(zDD fm none (zAe (mFrz (zAc 1)) mNil))
def zB2 (pf:PyData→Option PyData) (y3:PyData):Option PyData:=
 (pf y3).bind fun r4=>
 some r4
theorem zGq (fm:FM) (pf:PyData→Option PyData) (hq:∀(thing:PyData),fm [.val (eD thing)]=(pf thing).map fun z=>(.dat (eD z),[.no])) (o0:Slot) (y3:PyData):zA7 (zAi 1) mYes (zEb fm) [1] (eD y3) [o0,.no]=(zB2 pf y3).map fun z=>(some (eD z),[o0,.no]):=c_aa (α:=Unit) (by
 unfold zB2;refine c_t (e2:=[o0,.val (eD y3)]) rfl ?_;walk_at "~Y ac bb aA e m a:1 j h";refine c_az (bk:=fun r4=>[o0,.val (eD y3)]) rfl (hq y3) (fun _=>rfl) fun r4=>?_;walk_at "~j";refine c_ad (e1:=[o0,.no]) rfl ?_;exact rfl)
def zEa (fm:FM):ME:=(zDD fm none (zAe (mFrz (zAc 1)) mNil))
def zB1 (pf:PyData→Option PyData) (y8:PyData):Option PyData:=
 (pf y8).bind fun r9=>
 some r9
theorem zGp (fm:FM) (pf:PyData→Option PyData) (hq:∀(thing:PyData),fm [.val (eD thing)]=(pf thing).map fun z=>(.dat (eD z),[.no])) (o0:Slot) (y8:PyData):zA7 (zAi 1) mYes (zEa fm) [1] (eD y8) [o0,.no]=(zB1 pf y8).map fun z=>(some (eD z),[o0,.no]):=c_aa (α:=Unit) (by
 unfold zB1;refine c_t (e2:=[o0,.val (eD y8)]) rfl ?_;walk_at "~Y ac bb aA e m a:1 j h";refine c_az (bk:=fun r9=>[o0,.val (eD y8)]) rfl (hq y8) (fun _=>rfl) fun r9=>?_;walk_at "~j";refine c_ad (e1:=[o0,.no]) rfl ?_;exact rfl)
def zDt (fm:FM):MS:=(mSeq (mIfS (zAD (mIsi "list" (zAc 0))) (zAI [0,1] (mFrz (mLc (mItD (zAc 0)) (zAi 1) mYes (zEb fm) [1]))) zBF)
  (zAI [0,1] (mIf (zAD (mIsi "tuple" (zAc 0))) (mFrz (mCB zIi (zAe (mLc (mItD (zAc 0)) (zAi 1) mYes (zEa fm) [1]) mNil))) (mFrz (zAc 0)))))
def zBG:Nat→FM
 |0=>fun _=>none
 |n+1=>fmOf 1 2 (zDt (zBG n))
theorem zDP (T:Tx w K mg fd):∀n:Nat,FnOk P w K mg base CX0 (n+1) (He.ga K "_law_copied") (fd 6) ["_law_thing"] (spF K (zBG n))
 |0=>zMX
 |n+1=>(FnOk.mono (zCk (k:=n+1) T.jAj sc_w_copied fun cdv A outer s H E hr=>(show VSs _ _ (zDt (zBG n)) from (zAg (zBX (zBz (zBN (zAa 0) T.b_isinstance T.b_list (by decide+kernel))) (zAk (zAl (zAh (zGj (own:=[("_law_part",1)]) sc_w_copied.nd (zK2 (zAa 0)) (blkOk_by (own:=[("_law_part",1)]) (N:=["_law_thing","_law_part"]) (sc:=defScope zBC) (by decide+kernel)) (fun _ _ _ _ _=>(zAo (j:=1) sc_w_copied.nd)) (fun _ _ _ _ _=>zCr) (fun _ _ _ _ _=>(zEV none (zDP T n) hr T.jAE T.jAj.kp (zDT T) (zAb (zAh (zAa 1)) zAf))) (by decide))))) zAU)
   (zAk (zAl (zJ5 (zBz (zBN (zAa 0) T.b_isinstance T.b_tuple (by decide+kernel))) (zAh (zB7 call_tuple_of zKK (by rfl) T.b_tuple (by decide+kernel) (zAb (zGj (own:=[("_law_part",1)]) sc_w_copied.nd (zK2 (zAa 0)) (blkOk_by (own:=[("_law_part",1)]) (N:=["_law_thing","_law_part"]) (sc:=defScope zBC) (by decide+kernel)) (fun _ _ _ _ _=>(zAo (j:=1) sc_w_copied.nd)) (fun _ _ _ _ _=>zCr) (fun _ _ _ _ _=>(zEV none (zDP T n) hr T.jAE T.jAj.kp (zDT T) (zAb (zAh (zAa 1)) zAf))) (by decide)) zAf))) (zAh (zAa 0)))))))) (by omega))
def zAn (pf:PyData→Option PyData) (thing:PyData):Option PyData:=
 (pIsi "list" thing).bind fun t1=>
 if t1=true then
  (pItD thing).bind fun l2=>
  (gd (l2.length≤100000)).bind fun _=>
  (mapO (zB2 pf) l2).bind fun l5=>
  some ((eL eD) l5)
 else
  (pIsi "tuple" thing).bind fun t6=>
  if t6=true then
   (pItD thing).bind fun l7=>
   (gd (l7.length≤100000)).bind fun _=>
   (mapO (zB1 pf) l7).bind fun l10=>
   some ((eV eD) l10)
  else
   some thing
def zA6:Nat→PyData→Option PyData
 |0=>fun _=>none
 |n+1=>zAn (zA6 n)
theorem zG0 (fm:FM) (pf:PyData→Option PyData) (hq:∀(thing:PyData),fm [.val (eD thing)]=(pf thing).map fun z=>(.dat (eD z),[.no])) (thing:PyData):fmOf 1 2 (zDt fm) [.val (eD thing)]=(zAn pf thing).map fun z=>(.dat (eD z),[.no]):=by
 unfold zDt zAn;refine c_D (oR:=fun z:PyData=>.dat (eD z)) (eR:=fun z=>[.no,.no]) [.val (eD thing),.no] rfl rfl ?_ (fun _=>rfl) (fun _=>by walk_at "ik") (fun _=>rfl)
 walk_at "~l B o I a:1";refine c_H rfl fun t1=>?_;walk_at "~n";refine c_C ?_ ?_
 ·refine c_q ?_
  walk_at "~m T aW a:1 j";refine c_aV fun l2=>?_;refine c_S (xs:=l2) (ec:=eD) (e1:=[.val (eD thing),.no]) (by exact rfl) ?_
  refine c_V (zDf (zGq fm pf hq (.val (eD thing))) _) fun l5=>?_;walk_at "~L";refine c_p (.dat (eD ((eL eD) l5))) rfl (e2:=[.no,.no]) rfl ?_;walk_at "~E";exact rfl
 ·refine c_z ?_
  walk_at "~k q if o I a:1";refine c_H rfl fun t6=>?_;walk_at "~n";refine c_C ?_ ?_
  ·refine c_m ?_
   walk_at "~y e T aW a:1 j";refine c_aV fun l7=>?_;refine c_S (xs:=l7) (ec:=eD) (e1:=[.val (eD thing),.no]) (by exact rfl) ?_
   refine c_V (zDf (zGp fm pf hq (.val (eD thing))) _) fun l10=>?_;walk_at "~h";refine c_x _ rfl ?_;refine c_g zMm ?_;walk_at "~j";refine c_p (.dat (eD ((eV eD) l10))) rfl (e2:=[.no,.no]) rfl ?_;exact rfl
  ·refine c_m ?_
   walk_at "~a:1 j";refine c_p (.dat (eD thing)) rfl (e2:=[.no,.no]) rfl ?_;exact rfl
theorem zF0:∀(n:Nat) (thing:PyData),zBG n [.val (eD thing)]=(zA6 n thing).map fun z=>(.dat (eD z),[.no])
 |0,_=>rfl
 |n+1,thing=>zG0 (zBG n) (zA6 n) (fun thing=>zF0 n thing) thing
def zFw (fm:FM):ME:=(zAs fm none (zAe (zAc 2) (zAe (zAc 3) mNil)))
def zCi (pf:PyData→PyData→Option Bool) (y10:(PyData×PyData)):Option Bool:=
 (pf y10.1 y10.2).bind fun r11=>
 some r11
theorem zHG (fm:FM) (pf:PyData→PyData→Option Bool) (hq:∀(found:PyData) (due:PyData),fm [.val (eD found),.val (eD due)]=(pf found due).map fun z=>(.dat (eB z),[.no,.no])) (o0:Slot) (o1:Slot) (y10:(PyData×PyData)):zA7 (zCN (zAz (zAi 2) (zAz (zAi 3) zCA))) mYes (zFw fm) [2,3] ((eT2 eD eD) y10) [o0,o1,.no,.no]=(zCi pf y10).map fun z=>(some (eB z),[o0,o1,.no,.no]):=c_aa (α:=Unit) (by
 unfold zCi;walk_at "~af F";refine c_t (e2:=[o0,o1,.val (eD y10.1),.no]) rfl ?_;walk_at "~F";refine c_t (e2:=[o0,o1,.val (eD y10.1),.val (eD y10.2)]) rfl ?_;walk_at "~ag Y ac bb s e a:1 e a:1 h";refine c_r (bk:=fun r11=>[o0,o1,.val (eD y10.1),.val (eD y10.2)]) rfl rfl (hq y10.1 y10.2) (fun _=>by walk_at "fl") (fun _=>rfl) fun r11=>?_
 walk_at "~j";refine c_ad (e1:=[o0,o1,.no,.no]) rfl ?_;exact rfl)
def zEW (fm:FM):MS:=(mSeq (mIfS (zAD (zHQ "list" "tuple" (zAc 1))) (mSeq (mIfS (mOr (zAD (mOp (gEq true) (mIsi "list" (zAc 0)) (mIsi "list" (zAc 1)))) (zAD (mOp (gEq true) (mIsi "tuple" (zAc 0)) (mIsi "tuple" (zAc 1))))) (zAI [0,1,2,3] (mC (.bool false))) zBF)
  (zAI [0,1,2,3] (zEv (mOp (gEq false) (mCB gLen (zAe (zAc 0) mNil)) (mCB gLen (zAe (zAc 1) mNil))) (mCB gAll (zAe (mLc (zJn (zAe (mFrz (zAc 0)) (zAe (mFrz (zAc 1)) mNil))) (zCN (zAz (zAi 2) (zAz (zAi 3) zCA))) mYes (zFw fm) [2,3]) mNil))))) zBF)
  (mSeq (mIfS (mOr (zAD (mOp (gIsN false) (zAc 1) (mC .none))) (zAD (mOp (gIsN false) (zAc 0) (mC .none)))) (zAI [0,1,2,3] (zEv (mOp (gIsN false) (zAc 1) (mC .none)) (mOp (gIsN false) (zAc 0) (mC .none)))) zBF)
  (mSeq (mIfS (mOr (zAD (mIsi "bool" (zAc 1))) (zAD (mIsi "str" (zAc 1)))) (zAI [0,1,2,3] (zEv (mOp (gEq false) (mIsi "bool" (zAc 0)) (mIsi "bool" (zAc 1))) (mOp (gEq false) (zAc 0) (zAc 1)))) zBF)
  (zAI [0,1,2,3] (zEv (mIsi "int" (zAc 0)) (zEv (zIK (mIsi "bool" (zAc 0))) (mOp (gEq false) (zAc 0) (zAc 1))))))))
def zBt:Nat→FM
 |0=>fun _=>none
 |n+1=>fmOf 2 4 (zEW (zBt n))
theorem zC4 (T:Tx w K mg fd):∀n:Nat,FnOk P w K mg base CX0 (n+1) (He.ga K "_law_same") (fd 7) ["_law_found","_law_due"] (spF K (zBt n))
 |0=>zMX
 |n+1=>(FnOk.mono (zCk (k:=n+1) T.jAp sc_w_same fun cdv A outer s H E hr=>(show VSs _ _ (zEW (zBt n)) from (zAg (zBX (zBz (zHD (zAa 1) T.b_isinstance T.b_list (by decide+kernel) T.b_tuple (by decide+kernel))) (zAg (zBX (vt_w (zE3 (zA0 (zG4 hr.units) zG8 (zBN (zAa 0) T.b_isinstance T.b_list (by decide+kernel)) (zBN (zAa 1) T.b_isinstance T.b_list (by decide+kernel)) (nomark _)) (zDA (zA0 (zG4 hr.units) zG8 (zBN (zAa 0) T.b_isinstance T.b_tuple (by decide+kernel)) (zBN (zAa 1) T.b_isinstance T.b_tuple (by decide+kernel)) (nomark _))))) (zAk (zAl zFb)) zAU)
   (zAk (zAl (zFc (zDB (zFp hr.units) zFu (zAH call_len zEK (by rfl) T.b_len PySem.boot_len (zAb (zAa 0) zAf)) (zAH call_len zEK (by rfl) T.b_len PySem.boot_len (zAb (zAa 1) zAf)) (nomark _)) (zE7 (zAH (cr_all rfl) zHq (by rfl) T.b_all (by decide+kernel) (zAb (zGj (own:=[("_law_one",2),("_law_other",3)]) sc_w_same.nd (zLw T.b_zip (zAb (zAh (zAa 0)) (zAb (zAh (zAa 1)) zAf))) (blkOk_by (own:=[("_law_one",2),("_law_other",3)]) (N:=["_law_found","_law_due","_law_one","_law_other"]) (sc:=defScope zDq) (by decide+kernel)) (fun _ _ _ _ _=>(zDV (zAE (zAo (j:=2) sc_w_same.nd) (zAE (zAo (j:=3) sc_w_same.nd) zCK)) (zAp (zAp zBo)))) (fun _ _ _ _ _=>zCr) (fun _ _ _ _ _=>(zAj none (zC4 T n) hr T.jAK T.jAp.kp (zDl T) (zAb (zAa 2) (zAb (zAa 3) zAf)))) (by decide)) zAf))))))) zAU)
   (zAg (zBX (vt_w (zE3 (zA0 op_isN zG9 (zAa 1) zDW (nomark _)) (zDA (zA0 op_isN zG9 (zAa 0) zDW (nomark _))))) (zAk (zAl (zFc (zDB op_isN zG9 (zAa 1) zDW (nomark _)) (zE7 (zDB op_isN zG9 (zAa 0) zDW (nomark _)))))) zAU)
   (zAg (zBX (vt_w (zE3 (zBz (zBN (zAa 1) T.b_isinstance T.b_bool (by decide+kernel))) (zDA (zBz (zBN (zAa 1) T.b_isinstance T.b_str (by decide+kernel)))))) (zAk (zAl (zFc (zDB (zFp hr.units) zFu (zBN (zAa 0) T.b_isinstance T.b_bool (by decide+kernel)) (zBN (zAa 1) T.b_isinstance T.b_bool (by decide+kernel)) (nomark _)) (zE7 (zDB (zFp hr.units) zFu (zAa 0) (zAa 1) (nomark _)))))) zAU)
   (zAk (zAl (zFc (zBN (zAa 0) T.b_isinstance T.b_int (by decide+kernel)) (zFc (zK3 (zBN (zAa 0) T.b_isinstance T.b_bool (by decide+kernel))) (zE7 (zDB (zFp hr.units) zFu (zAa 0) (zAa 1) (nomark _)))))))))))) (by omega))
def zAB (pf:PyData→PyData→Option Bool) (found:PyData) (due:PyData):Option Bool:=
 (zCj "list" "tuple" due).bind fun t1=>
 if t1=true then
  (pIsi "list" found).bind fun t2=>
  (pIsi "list" due).bind fun t3=>
  (if (!decide (t2=t3))=true then
   some true
  else
   (pIsi "tuple" found).bind fun t4=>
   (pIsi "tuple" due).bind fun t5=>
   some (!decide (t4=t5))).bind fun z6=>
  if z6=true then
   some false
  else
   (zII found).bind fun t7=>
   (zII due).bind fun t8=>
   (if decide (t7=t8)=true then
    (zGx found due).bind fun l9=>
    (gd (l9.length≤100000)).bind fun _=>
    (mapO (zCi pf) l9).bind fun l12=>
    some (l12.all id)
   else
    some false).bind fun z13=>
   some z13
 else
  if ((pIsN false due)||(pIsN false found))=true then
   some ((pIsN false due)&&(pIsN false found))
  else
   (pIsi "bool" due).bind fun t14=>
   (if t14=true then
    some true
   else
    (pIsi "str" due).bind fun t15=>
    some t15).bind fun z16=>
   if z16=true then
    (pIsi "bool" found).bind fun t17=>
    (pIsi "bool" due).bind fun t18=>
    (if decide (t17=t18)=true then
     (pEqD false found due).bind fun t19=>
     some t19
    else
     some false).bind fun z20=>
    some z20
   else
    (pIsi "int" found).bind fun t21=>
    (if t21=true then
     (pIsi "bool" found).bind fun t22=>
     (if (!t22)=true then
      (pEqD false found due).bind fun t23=>
      some t23
     else
      some false).bind fun z24=>
     some z24
    else
     some false).bind fun z25=>
    some z25
def zBg:Nat→PyData→PyData→Option Bool
 |0=>fun _ _=>none
 |n+1=>zAB (zBg n)
theorem zIE (fm:FM) (pf:PyData→PyData→Option Bool) (hq:∀(found:PyData) (due:PyData),fm [.val (eD found),.val (eD due)]=(pf found due).map fun z=>(.dat (eB z),[.no,.no])) (found:PyData) (due:PyData):fmOf 2 4 (zEW fm) [.val (eD found),.val (eD due)]=(zAB pf found due).map fun z=>(.dat (eB z),[.no,.no]):=by
 unfold zEW zAB;refine c_D (oR:=fun z:Bool=>.dat (eB z)) (eR:=fun z=>[.no,.no,.no,.no]) [.val (eD found),.val (eD due),.no,.no] rfl rfl ?_ (fun _=>rfl) (fun _=>by walk_at "ik") (fun _=>rfl)
 walk_at "~l B o aI a:1";refine c_aH rfl fun t1=>?_;walk_at "~n";refine c_C ?_ ?_
 ·refine c_l ?_
  walk_at "~B ab o d I a:1";refine c_H rfl fun t2=>?_;walk_at "~I a:1";refine c_H rfl fun t3=>?_;walk_at "~b:2";refine c_g zKX ?_;walk_at "~n";refine c_w (fun z6=>(z6,[.val (eD found),.val (eD due),.no,.no])) ?_ ?_ fun z6=>?_
  ·exact rfl
  ·refine c_o ?_
   walk_at "~d I a:1";refine c_H rfl fun t4=>?_;walk_at "~I a:1";refine c_H rfl fun t5=>?_;walk_at "~b:2";refine c_g zKX ?_;walk_at "~n";exact rfl
  refine c_C ?_ ?_
  ·refine c_q ?_
   walk_at "~c";refine c_p (.dat (eB false)) rfl (e2:=[.no,.no,.no,.no]) rfl ?_;walk_at "~E E";exact rfl
  ·refine c_z ?_
   walk_at "~k q as d y e a:1 h";refine c_x _ rfl ?_;refine c_i zKT fun t7=>?_;walk_at "~y e a:1 h";refine c_x _ rfl ?_;refine c_i zKT fun t8=>?_;walk_at "~b:2";refine c_g zKW ?_;walk_at "~M";refine c_w (fun z13=>(.dat (.bool z13),[.val (eD found),.val (eD due),.no,.no])) ?_ ?_ fun z13=>?_
   ·refine c_y ?_
    walk_at "~e T a7 e m a:1 j e m a:1 j h";refine c_a6 rfl fun l9=>?_;refine c_S (xs:=l9) (ec:=(eT2 eD eD)) (e1:=[.val (eD found),.val (eD due),.no,.no]) (by exact rfl) ?_
    refine c_V (zDf (zHG fm pf hq (.val (eD found)) (.val (eD due))) _) fun l12=>?_;walk_at "~h";refine c_x _ rfl ?_;refine c_g (zIT (l:=l12)) ?_;exact rfl
   ·exact rfl
   refine c_p (.dat (eB z13)) rfl (e2:=[.no,.no,.no,.no]) rfl ?_;walk_at "~E";exact rfl
 ·refine c_z ?_
  walk_at "~k l B";refine c_br (c_Z (by refine c_o ?_;refine c_d ?_;refine c_a rfl ?_;refine c_c ?_;refine c_b rfl rfl ?_;refine c_g zH4 ?_;refine c_n ?_;exact rfl)) (c_Z (by refine c_o ?_;refine c_d ?_;refine c_a rfl ?_;refine c_c ?_;refine c_b rfl rfl ?_;refine c_g zH4 ?_;refine c_n ?_;exact rfl)) ?_
  refine c_C ?_ ?_
  ·refine c_q ?_
   refine c_bK (c_Z (by refine c_d ?_;refine c_a rfl ?_;refine c_c ?_;refine c_b rfl rfl ?_;refine c_g zH4 ?_;exact rfl)) (c_Z (by refine c_d ?_;refine c_a rfl ?_;refine c_c ?_;refine c_b rfl rfl ?_;refine c_g zH4 ?_;exact rfl)) ?_
   refine c_p (.dat (eB ((pIsN false due)&&(pIsN false found)))) rfl (e2:=[.no,.no,.no,.no]) rfl ?_;walk_at "~E";exact rfl
  ·refine c_z ?_
   walk_at "~k l B ab o I a:1";refine c_H rfl fun t14=>?_;walk_at "~n";refine c_w (fun z16=>(z16,[.val (eD found),.val (eD due),.no,.no])) ?_ ?_ fun z16=>?_
   ·exact rfl
   ·refine c_o ?_
    walk_at "~I a:1";refine c_H rfl fun t15=>?_;walk_at "~n";exact rfl
   refine c_C ?_ ?_
   ·refine c_q ?_
    walk_at "~as d I a:1";refine c_H rfl fun t17=>?_;walk_at "~I a:1";refine c_H rfl fun t18=>?_;walk_at "~b:2";refine c_g zMz ?_;walk_at "~M";refine c_w (fun z20=>(.dat (.bool z20),[.val (eD found),.val (eD due),.no,.no])) ?_ ?_ fun z20=>?_
    ·refine c_d ?_
     walk_at "~a:1 a:1 b:2";refine c_i zMy fun t19=>?_;exact rfl
    ·exact rfl
    refine c_p (.dat (eB z20)) rfl (e2:=[.no,.no,.no,.no]) rfl ?_;walk_at "~E";exact rfl
   ·refine c_z ?_
    walk_at "~k q as I a:1";refine c_H rfl fun t21=>?_;walk_at "~M";refine c_w (fun z25=>(.dat (.bool z25),[.val (eD found),.val (eD due),.no,.no])) ?_ ?_ fun z25=>?_
    ·refine c_as ?_
     walk_at "~aR I a:1";refine c_H rfl fun t22=>?_;walk_at "~M M";refine c_w (fun z24=>(.dat (.bool z24),[.val (eD found),.val (eD due),.no,.no])) ?_ ?_ fun z24=>?_
     ·refine c_d ?_
      walk_at "~a:1 a:1 b:2";refine c_i zMy fun t23=>?_;exact rfl
     ·exact rfl
     exact rfl
    ·exact rfl
    refine c_p (.dat (eB z25)) rfl (e2:=[.no,.no,.no,.no]) rfl ?_;exact rfl
theorem zD6:∀(n:Nat) (found:PyData) (due:PyData),zBt n [.val (eD found),.val (eD due)]=(zBg n found due).map fun z=>(.dat (eB z),[.no,.no])
 |0,_,_=>rfl
 |n+1,found,due=>zIE (zBt n) (zBg n) (fun found due=>zD6 n found due) found due
def zDa:MS:=(mSeq (mIfS (zAD (zHQ "list" "tuple" (zAc 0))) zLP zBF)
  (mSeq (mIfS (zAD (mIsi "list" (zAc 0))) zLP zBF)
  (zAI [0,1] (zAc 0))))
def zBZ:FM:=fmOf 1 2 zDa
theorem zGz (T:Tx w K mg fd):FnOk P w K mg base CX0 1 (He.ga K "_law_marked") (fd 8) ["_law_thing"] (spF K zBZ):=
 zCk T.jAm sc_w_marked fun cdv A outer s H E hr=>(show VSs _ _ zDa from (zAg (zBX (zBz (zHD (zAa 0) T.b_isinstance T.b_list (by decide+kernel) T.b_tuple (by decide+kernel))) (zAk zIW) zAU)
   (zAg (zBX (zBz (zBN (zAa 0) T.b_isinstance T.b_list (by decide+kernel))) (zAk zIW) zAU)
   (zAk (zAl (zAa 0))))))
def zBV (thing:PyData):Option PyData:=
 (zCj "list" "tuple" thing).bind fun t1=>
 if t1=true then
  none
 else
  (pIsi "list" thing).bind fun t2=>
  if t2=true then
   none
  else
   some thing
theorem zGZ (thing:PyData):zBZ [.val (eD thing)]=(zBV thing).map fun z=>(.dat (eD z),[.no]):=by
 unfold zBZ zDa zBV;refine c_D (oR:=fun z:PyData=>.dat (eD z)) (eR:=fun z=>[.no,.no]) [.val (eD thing),.no] rfl rfl ?_ (fun _=>rfl) (fun _=>by walk_at "ik") (fun _=>rfl)
 walk_at "~l B o aI a:1";refine c_aH rfl fun t1=>?_;walk_at "~n";refine c_C ?_ ?_
 ·exact rfl
 ·refine c_z ?_
  walk_at "~k l B o I a:1";refine c_H rfl fun t2=>?_;walk_at "~n";refine c_C ?_ ?_
  ·exact rfl
  ·refine c_z ?_
   walk_at "~k q a:1";refine c_p (.dat (eD thing)) rfl (e2:=[.no,.no]) rfl ?_;exact rfl
def zCc:MS:=(mAft [1] (zEO (zDD zBZ none (zAe (mFrz (zAc 1)) mNil))))
def zAP (xx:PyData) (ss:Unit):Option Unit:=
 (zBV xx).bind fun r3=>
 some ()
theorem zFh (o0:Slot) (xx:PyData) (ss:Unit):((zAi 1) (eD xx) [o0,.no]).bind zCc=(zAP xx ss).map (outN (fun ss:Unit=>[o0,.no])):=c_W (by
 unfold zAP zCc;refine c_t (e2:=[o0,.val (eD xx)]) rfl ?_;walk_at "~J an aA e m a:1 j h";refine c_az (bk:=fun r3=>[o0,.val (eD xx)]) rfl (zGZ xx) (fun _=>rfl) fun r3=>?_;refine c_G (e2:=[o0,.no]) rfl ?_;exact rfl)
def zC9:MS:=(mSeq (mIfS (zAD (zHQ "list" "tuple" (zAc 0))) (mAft [1] (mBef [1] (mFor (mItL (mCB zIO (zAe (zAc 0) mNil))) (zAi 1) zCc))) (mAft [1] zBF))
  (mSeq (mIfS (zAD (mIsi "list" (zAc 0))) (mAft [] (zEO (mMut 0 fApp (zAe (mFrz (mC (.str "a mark"))) mNil)))) (mAft [] zBF))
  (zJo [1] (zAc 0))))
abbrev zBY:FM:=fmD 1 2 zC9
theorem zGy (T:Tx w K mg fd):FnOk P w K mg base CX0 2 (He.ga K "_law_marked") (fd 8) ["_law_thing"] (spD K zBY):=
 zNo T.jAm sc_w_marked fun cdv A outer s H E hr=>(show VSs _ _ zC9 from (zAg (zBX (zBz (zHD (zAa 0) T.b_isinstance T.b_list (by decide+kernel) T.b_tuple (by decide+kernel))) (zBM (ws:=[1]) (zAk (zC1 (ws:=[1]) (zC0 PassesOwn.never (zDM (zB7 call_list_of zHZ (by rfl) T.b_list (by decide+kernel) (zAb (zAa 0) zAf))) (zAo (j:=1) sc_w_marked.nd) (zBM (ws:=[1]) (zAk (zEm (zEV none (FnOk.mono (zGz T) (by decide)) hr T.jAH T.jAm.kp (zFI T) (zAb (zAh (zAa 1)) zAf))))))))) (zBM (ws:=[1]) zAU))
   (zAg (zBX (zBz (zBN (zAa 0) T.b_isinstance T.b_list (by decide+kernel))) (zBM (ws:=[]) (zAk (zEm (zH8 (i:=0) PySem.F.slot_list_append PySem.F.type_list_append mt_append zHc (zAb (zAh zE5) zAf))))) (zBM (ws:=[]) zAU))
   (zAk (zLt (zAa 0))))))
def zBU (thing:(List PyData)):Option (Unit×(List PyData)):=
 (zCj "list" "tuple" ((eL eD) thing)).bind fun t1=>
 (if t1=true then
  (forP (zAP) thing ()).bind fun s4=>
  some ()
 else
  some ()).bind fun z2=>
 (pIsi "list" ((eL eD) thing)).bind fun t5=>
 (if t5=true then
  (pApp thing (eS ("a mark":Str))).bind fun thing7=>
  some thing7
 else
  some thing).bind fun z6=>
 some ((),z6)
theorem zGY (thing:(List PyData)):zBY [.io 0 (.lst (thing.map eD))]=(zBU thing).map fun z=>(.dat (eU z.1),[.io 0 (.lst (z.2.map eD))]):=by
 unfold zBY zC9 zBU;refine c_bx (oR:=fun _:(Unit×(List PyData))=>.slt 0) (eR:=fun z=>[.io 0 (.lst (z.2.map eD)),.no]) [.io 0 (.lst (thing.map eD)),.no] rfl rfl ?_ (fun _=>rfl) (fun _=>by walk_at "ik") (fun _=>rfl)
 walk_at "~l B o aI A:1";refine c_aH rfl fun t1=>?_;walk_at "~n";refine c_w (fun z2:Unit=>(.nx,[.io 0 (.lst (thing.map eD)),.no])) ?_ ?_ fun z2=>?_
 ·refine c_J ?_
  refine c_X (e2:=[.io 0 (.lst (thing.map eD)),.no]) rfl ?_;walk_at "~U ar y e A:1 h";refine c_x _ rfl ?_;refine c_g zHx ?_;walk_at "~L aq";refine c_ap (E:=fun sE:Unit=>[.io 0 (.lst (thing.map eD)),.no]) (zFF (E:=fun sE:Unit=>[.io 0 (.lst (thing.map eD)),.no]) (ec:=eD) (zFh (.io 0 (.lst (thing.map eD)))) _ ()) fun s4=>?_;refine c_G (e2:=[.io 0 (.lst (thing.map eD)),.no]) rfl ?_;exact rfl
 ·refine c_J ?_
  walk_at "~z";refine c_G (e2:=[.io 0 (.lst (thing.map eD)),.no]) rfl ?_;exact rfl
 walk_at "~k l B o I A:1";refine c_H rfl fun t5=>?_;walk_at "~n";refine c_w (fun z6:(List PyData)=>(.nx,[.io 0 (.lst (z6.map eD)),.no])) ?_ ?_ fun z6=>?_
 ·refine c_J ?_
  walk_at "~an ax:1 e m c j h";refine c_aw [eD (eS ("a mark":Str))] (thing.map eD) (fun thing7=>[.io 0 (.lst (thing7.map eD)),.no]) rfl rfl (zMC (e:=eD) (l:=thing) (x:=(eS ("a mark":Str)))) (fun _=>rfl) fun thing7=>?_;refine c_G (e2:=[.io 0 (.lst (thing7.map eD)),.no]) rfl ?_;exact rfl
 ·refine c_J ?_
  walk_at "~z";refine c_G (e2:=[.io 0 (.lst (thing.map eD)),.no]) rfl ?_;exact rfl
 walk_at "~k bl A:1";refine c_bk (e2:=[.io 0 (.lst (z6.map eD)),.no]) rfl ?_;exact rfl
def zCs:MS:=(zAI [0] (zEv (mIsi "int" (zAc 0)) (zIK (mIsi "bool" (zAc 0)))))
def zBr:FM:=fmOf 1 1 zCs
theorem zFq (T:Tx w K mg fd):FnOk P w K mg base CX0 1 (He.ga K "whole_number") (fd 9) ["thing"] (spF K zBr):=
 zCk T.jAv zFf fun cdv A outer s H E hr=>(show VSs _ _ zCs from (zAk (zAl (zFc (zBN (zAa 0) T.b_isinstance T.b_int (by decide+kernel)) (zE7 (zK3 (zBN (zAa 0) T.b_isinstance T.b_bool (by decide+kernel))))))))
def zBb (thing:Int):Option Bool:=
 (pIsi "int" (eI thing)).bind fun t1=>
 (if t1=true then
  (pIsi "bool" (eI thing)).bind fun t2=>
  some (!t2)
 else
  some false).bind fun z3=>
 some z3
theorem zFS (thing:Int):zBr [.val (eI thing)]=(zBb thing).map fun z=>(.dat (eB z),[.no]):=by
 unfold zBr zCs zBb;refine c_D (oR:=fun z:Bool=>.dat (eB z)) (eR:=fun z=>[.no]) [.val (eI thing)] rfl rfl ?_ (fun _=>rfl) (fun _=>by walk_at "ik") (fun _=>rfl)
 walk_at "~q as I a:1";refine c_H rfl fun t1=>?_;walk_at "~M";refine c_w (fun z3=>(.dat (.bool z3),[.val (eI thing)])) ?_ ?_ fun z3=>?_
 ·refine c_aR ?_
  walk_at "~I a:1";refine c_H rfl fun t2=>?_;walk_at "~M";exact rfl
 ·exact rfl
 refine c_p (.dat (eB z3)) rfl (e2:=[.no]) rfl ?_;exact rfl
def zCu:MS:=(zAI [0,1] (zEv (mOp (gEq false) (mOp gMod (zAc 1) (zAc 0)) (mC (.int 0))) (zDe (gCmp fun i j=>decide (i≤j)) (gCmp fun i j=>decide (i≤j)) (mC c_a4) (mOp gDiv (zAc 1) (zAc 0)) (mC c_a0))))
def zBw:FM:=fmOf 2 2 zCu
theorem zFt (T:Tx w K mg fd):FnOk P w K mg base CX0 1 (He.ga K "follows_size") (fd 10) ["size","other"] (spF K zBw):=
 zCk T.jAa zFg fun cdv A outer s H E hr=>(show VSs _ _ zCu from (zAk (zAl (zFc (zDB (zFp hr.units) zFu (zAm op_mod zBR (zAa 1) (zAa 0)) zAd (nomark _)) (zE7 (zJ6 op_le (zBW (p:=fun i j=>decide (i≤j))) op_le (zBW (p:=fun i j=>decide (i≤j))) (zEL T) (zAm op_fdiv zC5 (zAa 1) (zAa 0)) (zE8 T)))))))
def zBd (size:Int) (other:Int):Option Bool:=
 (pMod other size).bind fun t1=>
 (if decide (t1=0)=true then
  (pDiv other size).bind fun t2=>
  some (decide ((2)≤t2)&&decide (t2≤(12)))
 else
  some false).bind fun z3=>
 some z3
theorem zFU (size:Int) (other:Int):zBw [.val (eI size),.val (eI other)]=(zBd size other).map fun z=>(.dat (eB z),[.no,.no]):=by
 unfold zBw zCu zBd;refine c_D (oR:=fun z:Bool=>.dat (eB z)) (eR:=fun z=>[.no,.no]) [.val (eI size),.val (eI other)] rfl rfl ?_ (fun _=>rfl) (fun _=>by walk_at "ik") (fun _=>rfl)
 walk_at "~q as d d a:1 a:1 b:2";refine c_i zGh fun t1=>?_;walk_at "~c b:2";refine c_g zKW ?_;walk_at "~M";refine c_w (fun z3=>(.dat (.bool z3),[.val (eI size),.val (eI other)])) ?_ ?_ fun z3=>?_
 ·refine c_aM ?_
  walk_at "~c d a:1 a:1 b:2";refine c_i zFP fun t2=>?_;walk_at "~b:2";refine c_g zDy ?_;walk_at "~M";refine c_aL (c_Z (by refine c_c ?_;exact rfl)) rfl zDy ?_
  exact rfl
 ·exact rfl
 refine c_p (.dat (eB z3)) rfl (e2:=[.no,.no]) rfl ?_;exact rfl
def zEe:ME:=(zAs zBr none (zAe (zAc 3) mNil))
def zBy (y3:Int):Option Bool:=
 (zBb y3).bind fun r4=>
 some r4
theorem zGt (o0:Slot) (y3:Int):zA7 (zAi 3) mYes zEe [3] (eI y3) [o0,.no,.no,.no]=(zBy y3).map fun z=>(some (eB z),[o0,.no,.no,.no]):=c_aa (α:=Unit) (by
 unfold zBy;refine c_t (e2:=[o0,.no,.no,.val (eI y3)]) rfl ?_;walk_at "~Y ac bb s e a:1 h";refine c_r (bk:=fun r4=>[o0,.no,.no,.val (eI y3)]) rfl rfl (zFS y3) (fun _=>by walk_at "fl") (fun _=>rfl) fun r4=>?_
 walk_at "~j";refine c_ad (e1:=[o0,.no,.no,.no]) rfl ?_;exact rfl)
def zCR:MS:=(mAft [1,2] (mIfS (mNot (zAD (zAs zBw none (zAe (zAc 1) (zAe (zAc 2) mNil))))) (zAI [0,1,2,3] (mC (.bool false))) zBF))
def zAL (xx:(Int×Int)) (ss:Unit):Option (Fw Bool Unit):=
 (zBd xx.1 xx.2).bind fun r8=>
 if (!r8)=true then
  some (.rt false)
 else
  some (.nx ())
theorem zGu (o0:Slot) (xx:(Int×Int)) (ss:Unit):((zCN (zAz (zAi 1) (zAz (zAi 2) zCA))) ((eT2 eI eI) xx) [o0,.no,.no,.no]).bind zCR=(zAL xx ss).map (outB (fun z:Bool=>.dat (eB z)) (fun z=>[.no,.no,.no,.no]) (fun ss:Unit=>[o0,.no,.no,.no])):=c_W (by
 unfold zAL zCR;walk_at "~af F";refine c_t (e2:=[o0,.val (eI xx.1),.no,.no]) rfl ?_;walk_at "~F";refine c_t (e2:=[o0,.val (eI xx.1),.val (eI xx.2),.no]) rfl ?_;walk_at "~ag J B R o s e a:1 e a:1 h";refine c_r (bk:=fun r8=>[o0,.val (eI xx.1),.val (eI xx.2),.no]) rfl rfl (zFU xx.1 xx.2) (fun _=>by walk_at "fl") (fun _=>rfl) fun r8=>?_
 walk_at "~n";refine c_C ?_ ?_
 ·refine c_q ?_
  walk_at "~c";refine c_p (.dat (eB false)) rfl (e2:=[.no,.no,.no,.no]) rfl ?_;walk_at "~ao";exact rfl
 ·refine c_z ?_
  refine c_G (e2:=[o0,.no,.no,.no]) rfl ?_;exact rfl)
def zEu:MS:=(mSeq (mIfS (mOr (mNot (zAD (mIsi "list" (zAc 0)))) (mNot (zAD (zDe (gCmp fun i j=>decide (i≤j)) (gCmp fun i j=>decide (i≤j)) (mC (.int 1)) (mCB gLen (zAe (zAc 0) mNil)) (mC c_a1))))) (zAI [0,1,2,3] (mC (.bool false))) zBF)
  (mSeq (mIfS (mOr (mNot (zAD (mCB gAll (zAe (mLc (mItL (zAc 0)) (zAi 3) mYes zEe [3]) mNil)))) (mNot (zAD (zDe (gCmp fun i j=>decide (i≤j)) (gCmp fun i j=>decide (i≤j)) (mC (.int 1)) (mOp gIx (zAc 0) (mC (.int 0))) (mC c_a2))))) (zAI [0,1,2,3] (mC (.bool false))) zBF)
  (mSeq (mBef [1,2] (mFor (mZip (zAe (mFrz (zAc 0)) (zAe (mFrz (mSl gSlL (zAc 0) (zEf (mC (.int 1))) zCS)) mNil))) (zCN (zAz (zAi 1) (zAz (zAi 2) zCA))) zCR))
  (zAI [0,1,2,3] (mC (.bool true))))))
def zCh:FM:=fmOf 1 4 zEu
theorem zFs (T:Tx w K mg fd):FnOk P w K mg base CX0 2 (He.ga K "is_sizes") (fd 11) ["thing"] (spF K zCh):=
 zCk T.jAb sc_is_sizes fun cdv A outer s H E hr=>(show VSs _ _ zEu from (zAg (zBX (vt_w (zE3 (zCZ (zBz (zBN (zAa 0) T.b_isinstance T.b_list (by decide+kernel)))) (zDA (zCZ (zGi op_le (zBW (p:=fun i j=>decide (i≤j))) op_le (zBW (p:=fun i j=>decide (i≤j))) zAd (zAH call_len zEK (by rfl) T.b_len PySem.boot_len (zAb (zAa 0) zAf)) (zE9 T)))))) (zAk (zAl zFb)) zAU)
   (zAg (zBX (vt_w (zE3 (zCZ (zBz (zAH (cr_all rfl) zHq (by rfl) T.b_all (by decide+kernel) (zAb (zGj (own:=[("one",3)]) sc_is_sizes.nd (zDM (zAa 0)) (blkOk_by (own:=[("one",3)]) (N:=["thing","size","other","one"]) (sc:=defScope zB4) (by decide+kernel)) (fun _ _ _ _ _=>(zAo (j:=3) sc_is_sizes.nd)) (fun _ _ _ _ _=>zCr) (fun _ _ _ _ _=>(zAj none (FnOk.mono (zFq T) (by decide)) hr T.jAQ T.jAv.kp (zFH T) (zAb (zAa 3) zAf))) (by decide)) zAf)))) (zDA (zCZ (zGi op_le (zBW (p:=fun i j=>decide (i≤j))) op_le (zBW (p:=fun i j=>decide (i≤j))) zAd (zAY ix_seq zAZ (zAa 0) zAd (fun _ _=>rfl)) (zFa T)))))) (zAk (zAl zFb)) zAU)
   (zAg (zC1 (ws:=[1,2]) (zC0 PassesOwn.never (zK1 T.b_zip (zAb (zAh (zAa 0)) (zAb (zAh (zCL sl_list zDO (zAa 0) (zB6 zAd) zDL)) zAf))) (zDV (zAE (zAo (j:=1) sc_is_sizes.nd) (zAE (zAo (j:=2) sc_is_sizes.nd) zCK)) (zAp (zAp zBo))) (zBM (ws:=[1,2]) (zAk (zBX (zCZ (zBz (zAj none (FnOk.mono (zFt T) (by decide)) hr T.jAw T.jAa.kp (zFL T) (zAb (zAa 1) (zAb (zAa 2) zAf))))) (zAk (zAl zFb)) zAU)))))
   (zAk (zAl zFb))))))
def zBl (thing:(List Int)):Option Bool:=
 (pIsi "list" ((eL eI) thing)).bind fun t1=>
 (if (!t1)=true then
  some true
 else
  some (!(decide (1≤(thing.length:Int))&&decide ((thing.length:Int)≤(5))))).bind fun z2=>
 if z2=true then
  some false
 else
  (gd (thing.length≤100000)).bind fun _=>
  (mapO (zBy) thing).bind fun l5=>
  (if (!(l5.all id))=true then
   some true
  else
   (pIx thing 0).bind fun t6=>
   some (!(decide (1≤t6)&&decide (t6≤(100))))).bind fun z7=>
  if z7=true then
   some false
  else
   (forR (zAL) (thing.zip (cutL thing (some 1) none)) ()).bind fun w10=>w10.on (fun z=>some z) fun s9=>
    some true
theorem zF1 (thing:(List Int)):zCh [.val ((eL eI) thing)]=(zBl thing).map fun z=>(.dat (eB z),[.no]):=by
 unfold zCh zEu zBl;refine c_D (oR:=fun z:Bool=>.dat (eB z)) (eR:=fun z=>[.no,.no,.no,.no]) [.val ((eL eI) thing),.no,.no,.no] rfl rfl ?_ (fun _=>rfl) (fun _=>by walk_at "ik") (fun _=>rfl)
 walk_at "~l B ab R o I a:1";refine c_H rfl fun t1=>?_;walk_at "~n";refine c_w (fun z2=>(z2,[.val ((eL eI) thing),.no,.no,.no])) ?_ ?_ fun z2=>?_
 ·exact rfl
 ·refine c_R ?_
  walk_at "~o";refine c_bA (c_Z (by refine c_c ?_;exact rfl)) (c_Z (by refine c_y ?_;refine c_e ?_;refine c_a rfl ?_;refine c_h ?_;refine c_x _ rfl ?_;refine c_g (zGK (e:=eI) (l:=thing)) ?_;exact rfl)) (c_Z (by refine c_c ?_;exact rfl)) rfl zDy zDy ?_
  walk_at "~n";exact rfl
 refine c_C ?_ ?_
 ·refine c_q ?_
  walk_at "~c";refine c_p (.dat (eB false)) rfl (e2:=[.no,.no,.no,.no]) rfl ?_;walk_at "~E";exact rfl
 ·refine c_z ?_
  walk_at "~k l B ab R o y e T ar a:1 j aq";refine c_S (xs:=thing) (ec:=eI) (e1:=[.val ((eL eI) thing),.no,.no,.no]) (by exact rfl) ?_
  refine c_V (zDf (zGt (.val ((eL eI) thing))) _) fun l5=>?_;walk_at "~h";refine c_x _ rfl ?_;refine c_g (zIT (l:=l5)) ?_;walk_at "~n";refine c_w (fun z7=>(z7,[.val ((eL eI) thing),.no,.no,.no])) ?_ ?_ fun z7=>?_
  ·exact rfl
  ·refine c_R ?_
   walk_at "~o aM c d a:1 c b:2";refine c_i (x_ix (e:=eI) (l:=thing)) fun t6=>?_;walk_at "~b:2";refine c_g zDy ?_;walk_at "~M";refine c_aL (c_Z (by refine c_c ?_;exact rfl)) rfl zDy ?_
   walk_at "~n";exact rfl
  refine c_C ?_ ?_
  ·refine c_q ?_
   walk_at "~c";refine c_p (.dat (eB false)) rfl (e2:=[.no,.no,.no,.no]) rfl ?_;walk_at "~E";exact rfl
  ·refine c_z ?_
   walk_at "~k l";refine c_X (e2:=[.val ((eL eI) thing),.no,.no,.no]) rfl ?_;walk_at "~U aO e m a:1 j e m sl a:1 Q c P am";refine c_aj _ rfl ?_;refine c_g zHy ?_;walk_at "~L h";refine c_aN (l:=thing) (ec:=eI) (l':=(cutL thing (some 1) none)) (ed:=eI) rfl ?_;refine c_ay (E:=fun sE:Unit=>[.val ((eL eI) thing),.no,.no,.no]) (oR:=fun z:Bool=>.dat (eB z)) (eR:=fun z=>[.no,.no,.no,.no]) (zF6 (E:=fun sE:Unit=>[.val ((eL eI) thing),.no,.no,.no]) (oR:=fun z:Bool=>.dat (eB z)) (eR:=fun z=>[.no,.no,.no,.no]) (ec:=(eT2 eI eI)) (zGu (.val ((eL eI) thing))) _ ()) (fun z=>?_) (fun s9=>?_)
   ·refine c_E ?_
    exact rfl
   ·refine c_k ?_
    walk_at "~q c";refine c_p (.dat (eB true)) rfl (e2:=[.no,.no,.no,.no]) rfl ?_;exact rfl
def zEd:ME:=(zAc 2)
def zEc:MT:=(zAD (mOp (gCmp fun i j=>decide (j≤i)) (zAc 2) (zAc 1)))
theorem zGr (o0:Slot) (size:Int) (y1:Int):zA7 (zAi 2) zEc zEd [2] (eI y1) [o0,.val (eI size),.no]=some (if decide (size≤y1)=true then some (eI y1) else none,[o0,.val (eI size),.no]):=c_bc (by refine c_t (e2:=[o0,.val (eI size),.val (eI y1)]) rfl ?_;refine c_o ?_;refine c_d ?_;refine c_a rfl ?_;refine c_a rfl ?_;refine c_b rfl rfl ?_;refine c_g zDy ?_;refine c_n ?_;refine c_ba ?_ rfl;refine c_a rfl ?_;refine c_j ?_;exact rfl)
def zEs:MS:=(zAI [0,1,2] (mOp gDiv (mCB gSum (zAe (mLc (mItL (zAc 0)) (zAi 2) zEc zEd [2]) mNil)) (zAc 1)))
def zBh:FM:=fmOf 2 3 zEs
theorem zCM (T:Tx w K mg fd):FnOk P w K mg base CX0 1 (He.ga K "units_of") (fd 12) ["weights","size"] (spF K zBh):=
 zCk T.jAg sc_units_of fun cdv A outer s H E hr=>(show VSs _ _ zEs from (zAk (zAl (zAm op_fdiv zC5 (zAH (cr_sum rfl) zLk (by rfl) T.b_sum (by decide+kernel) (zAb (zGj (own:=[("weight",2)]) sc_units_of.nd (zDM (zAa 0)) (blkOk_by (own:=[("weight",2)]) (N:=["weights","size","weight"]) (sc:=defScope zB3) (by decide+kernel)) (fun _ _ _ _ _=>(zAo (j:=2) sc_units_of.nd)) (fun _ _ _ _ _=>(zLs (zA0 op_ge (zBW (p:=fun i j=>decide (j≤i))) (zAa 2) (zAa 1) (nomark _)))) (fun _ _ _ _ _=>(zAa 2)) (by decide)) zAf)) (zAa 1)))))
def zBk (weights:(List Int)) (size:Int):Option Int:=
 (gd (weights.length≤100000)).bind fun _=>
 (pDiv ((weights.filter fun (y1:Int)=>decide (size≤y1)).sum) size).bind fun t2=>
 some t2
theorem zDs (weights:(List Int)) (size:Int):zBh [.val ((eL eI) weights),.val (eI size)]=(zBk weights size).map fun z=>(.dat (eI z),[.no,.no]):=by
 unfold zBh zEs zBk;refine c_D (oR:=fun z:Int=>.dat (eI z)) (eR:=fun z=>[.no,.no,.no]) [.val ((eL eI) weights),.val (eI size),.no] rfl rfl ?_ (fun _=>rfl) (fun _=>by walk_at "ik") (fun _=>rfl)
 walk_at "~q d y e T ar a:1 j aq";refine c_S (xs:=weights) (ec:=eI) (e1:=[.val ((eL eI) weights),.val (eI size),.no]) (by exact rfl) ?_
 refine c_bp (zKs (p:=fun y1=>decide (size≤y1)) (zGr (.val ((eL eI) weights)) size) _) ?_;walk_at "~h";refine c_x _ rfl ?_;refine c_g (zMn (l:=(weights.filter fun (y1:Int)=>decide (size≤y1)))) ?_;walk_at "~a:1 b:2";refine c_i zFP fun t2=>?_;refine c_p (.dat (eI t2)) rfl (e2:=[.no,.no,.no]) rfl ?_;exact rfl
def zCe:MS:=(mAft [4,5] (mSeq (mIfS (zAD (mOp (gCmp fun i j=>decide (j≤i)) (zAc 3) (zAc 5))) (mAft [] (zIL 2 (mOp gAdd (mCB gStr (zAe (mOp gDiv (zAc 3) (zAc 5)) mNil)) (zAc 4)))) (mAft [] zBF))
  (mSet 3 (mFrz (mOp gMod (zAc 3) (zAc 5))))))
def zAy (xx:(Str×Int)) (ss:(Str×Int)):Option (Str×Int):=
 (if decide (xx.2≤ss.2)=true then
  (pDiv ss.2 xx.2).bind fun t3=>
  (pStr t3).bind fun t4=>
  (zD7 t4 xx.1).bind fun t5=>
  (zD7 ss.1 t5).bind fun found6=>
  some found6
 else
  some ss.1).bind fun z2=>
 (pMod ss.2 xx.2).bind fun t7=>
 some (z2,t7)
theorem zFj (o0:Slot) (o1:Slot) (xx:(Str×Int)) (ss:(Str×Int)):((zCN (zAz (zAi 4) (zAz (zAi 5) zCA))) ((eT2 eS eI) xx) [o0,o1,.val (eS ss.1),.val (eI ss.2),.no,.no]).bind zCe=(zAy xx ss).map (outN (fun ss:(Str×Int)=>[o0,o1,.val (eS ss.1),.val (eI ss.2),.no,.no])):=c_W (by
 unfold zAy zCe;walk_at "~af F";refine c_t (e2:=[o0,o1,.val (eS ss.1),.val (eI ss.2),.val (eS xx.1),.no]) rfl ?_;walk_at "~F";refine c_t (e2:=[o0,o1,.val (eS ss.1),.val (eI ss.2),.val (eS xx.1),.val (eI xx.2)]) rfl ?_;walk_at "~ag J l B o d a:1 a:1 b:2";refine c_g zDy ?_;walk_at "~n";refine c_w (fun z2:Str=>(.nx,[o0,o1,.val (eS z2),.val (eI ss.2),.val (eS xx.1),.val (eI xx.2)])) ?_ ?_ fun z2=>?_
 ·refine c_J ?_
  walk_at "~bH:1 d y e d a:1 a:1 b:2";refine c_i zFP fun t3=>?_;walk_at "~h";refine c_x _ rfl ?_;refine c_i x_str fun t4=>?_;walk_at "~a:1 b:2";refine c_i zKY fun t5=>?_;refine c_bG (fun found6=>[o0,o1,.val (eS found6),.val (eI ss.2),.val (eS xx.1),.val (eI xx.2)]) (fun _=>rfl) fun found6=>?_;refine c_G (e2:=[o0,o1,.val (eS found6),.val (eI ss.2),.val (eS xx.1),.val (eI xx.2)]) rfl ?_;exact rfl
 ·refine c_J ?_
  walk_at "~z";refine c_G (e2:=[o0,o1,.val (eS ss.1),.val (eI ss.2),.val (eS xx.1),.val (eI xx.2)]) rfl ?_;exact rfl
 walk_at "~k u m d a:1 a:1 b:2";refine c_i zGh fun t7=>?_;walk_at "~j";refine c_K (e2:=[o0,o1,.val (eS z2),.val (eI t7),.val (eS xx.1),.val (eI xx.2)]) rfl ?_;refine c_G (e2:=[o0,o1,.val (eS z2),.val (eI t7),.no,.no]) rfl ?_;exact rfl)
def zDb:MS:=(mSeq (mSet 2 (mFrz (mC (.str ""))))
  (mSeq (mSet 3 (mFrz (zAc 0)))
  (mSeq (mBef [4,5] (mFor (mItT (zAc 1)) (zCN (zAz (zAi 4) (zAz (zAi 5) zCA))) zCe))
  (zAI [0,1,2,3,4,5] (mIf (zAD (mOp (gEq false) (zAc 2) (mC (.str "")))) (mFrz (mOp gAdd (mC (.str "0")) (mOp gIx (mOp gIx (zAc 1) (mUn gNeg (mC (.int 1)))) (mC (.int 0))))) (mFrz (zAc 2)))))))
def zBu:FM:=fmOf 2 6 zDb
theorem zD8 (T:Tx w K mg fd):FnOk P w K mg base CX0 1 (He.ga K "units_text") (fd 13) ["number","units"] (spF K zBu):=
 zCk T.jAh sc_units_text fun cdv A outer s H E hr=>(show VSs _ _ zDb from (zAg (zAM (i:=2) sc_units_text.nd (zAh zE5))
   (zAg (zAM (i:=3) sc_units_text.nd (zAh (zAa 0)))
   (zAg (zC1 (ws:=[4,5]) (zC0 PassesOwn.never (zIX (zAa 1)) (zDV (zAE (zAo (j:=4) sc_units_text.nd) (zAE (zAo (j:=5) sc_units_text.nd) zCK)) (zAp (zAp zBo))) (zBM (ws:=[4,5]) (zAg (zBX (zA0 op_ge (zBW (p:=fun i j=>decide (j≤i))) (zAa 3) (zAa 5) (nomark _)) (zBM (ws:=[]) (zAk (zLu (i:=2) sc_units_text.nd (zAm zAW zAX (zB7 call_str_int zNr (by rfl) T.b_str (by decide+kernel) (zAb (zAm op_fdiv zC5 (zAa 3) (zAa 5)) zAf)) (zAa 4))))) (zBM (ws:=[]) zAU))
   (zAk (zAM (i:=3) sc_units_text.nd (zAh (zAm op_mod zBR (zAa 3) (zAa 5)))))))))
   (zAk (zAl (zJ5 (zA0 (zFp hr.units) zFu (zAa 2) zE5 (nomark _)) (zAh (zAm zAW zAX zE5 (zAY ix_seq zAZ (zAY ix_seq zAZ (zAa 1) (zE4 un_neg zC2 zAd) (fun _ _=>rfl)) zAd (fun _ _=>rfl)))) (zAh (zAa 2)))))))))
def zBj (number:Int) (units:(List (Str×Int))):Option Str:=
 (some ("":Str)).bind fun found1=>
 (forP (zAy) units (found1,number)).bind fun s8=>
 if decide (s8.1=("":Str))=true then
  (pIx units (-1)).bind fun t9=>
  (zD7 ("0":Str) t9.1).bind fun t10=>
  some t10
 else
  some s8.1
theorem zEB (number:Int) (units:(List (Str×Int))):zBu [.val (eI number),.val ((eV (eT2 eS eI)) units)]=(zBj number units).map fun z=>(.dat (eS z),[.no,.no]):=by
 unfold zBu zDb zBj;refine c_D (oR:=fun z:Str=>.dat (eS z)) (eR:=fun z=>[.no,.no,.no,.no,.no,.no]) [.val (eI number),.val ((eV (eT2 eS eI)) units),.no,.no,.no,.no] rfl rfl ?_ (fun _=>rfl) (fun _=>by walk_at "ik") (fun _=>rfl)
 walk_at "~l u m c j";refine c_al (τ:=Str) eS ("":Str) (fun found1=>[.val (eI number),.val ((eV (eT2 eS eI)) units),.val (eS found1),.no,.no,.no]) (fun _=>rfl) fun found1=>?_;walk_at "~k l u m a:1 j";refine c_K (e2:=[.val (eI number),.val ((eV (eT2 eS eI)) units),.val (eS found1),.val (eI number),.no,.no]) rfl ?_;walk_at "~k l";refine c_X (e2:=[.val (eI number),.val ((eV (eT2 eS eI)) units),.val (eS found1),.val (eI number),.no,.no]) rfl ?_
 walk_at "~U aU a:1 j aT";refine c_ap (E:=fun sE:(Str×Int)=>[.val (eI number),.val ((eV (eT2 eS eI)) units),.val (eS sE.1),.val (eI sE.2),.no,.no]) (zFF (E:=fun sE:(Str×Int)=>[.val (eI number),.val ((eV (eT2 eS eI)) units),.val (eS sE.1),.val (eI sE.2),.no,.no]) (ec:=(eT2 eS eI)) (zFj (.val (eI number)) (.val ((eV (eT2 eS eI)) units))) _ (found1,number)) fun s8=>?_;walk_at "~k q if o d a:1 c b:2";refine c_g zGL ?_
 walk_at "~n";refine c_C ?_ ?_
 ·refine c_m ?_
  walk_at "~d c d d a:1 O c N:1";refine c_g zE0 ?_;walk_at "~b:2";refine c_i (x_ixV (e:=(eT2 eS eI)) (l:=units)) fun t9=>?_;walk_at "~c b:2";refine c_g (x_ixT rfl) ?_;walk_at "~b:2";refine c_i zKY fun t10=>?_;walk_at "~j";refine c_p (.dat (eS t10)) rfl (e2:=[.no,.no,.no,.no,.no,.no]) rfl ?_;exact rfl
 ·refine c_m ?_
  walk_at "~a:1 j";refine c_p (.dat (eS s8.1)) rfl (e2:=[.no,.no,.no,.no,.no,.no]) rfl ?_;exact rfl
def zCO:MS:=(zAI [0] (zAs zBu none (zAe (zAc 0) (zAe (mC c_at) mNil))))
def zBK:FM:=fmOf 1 1 zCO
theorem zFV (T:Tx w K mg fd):FnOk P w K mg base CX0 2 (He.ga K "weight_text") (fd 14) ["pounds"] (spF K zBK):=
 zCk T.jAu zFR fun cdv A outer s H E hr=>(show VSs _ _ zCO from (zAk (zAl (zAj none (FnOk.mono (zD8 T) (by decide)) hr T.jAC T.jAh.kp (zEl T) (zAb (zAa 0) (zAb (zCv T) zAf))))))
def zBx (pounds:Int):Option Str:=
 (zBj pounds zA8).bind fun r1=>
 some r1
theorem zGw (pounds:Int):zBK [.val (eI pounds)]=(zBx pounds).map fun z=>(.dat (eS z),[.no]):=by
 unfold zBK zCO zBx;refine c_D (oR:=fun z:Str=>.dat (eS z)) (eR:=fun z=>[.no]) [.val (eI pounds)] rfl rfl ?_ (fun _=>rfl) (fun _=>by walk_at "ik") (fun _=>rfl)
 walk_at "~q s e a:1 e c h";refine c_r (bk:=fun r1=>[.val (eI pounds)]) rfl rfl (zEB pounds zA8) (fun _=>by walk_at "fl") (fun _=>rfl) fun r1=>?_
 refine c_p (.dat (eS r1)) rfl (e2:=[.no]) rfl ?_;exact rfl
def zCB:ME:=(mOp (gInS false) (zAc 1) (mC c_a5))
def zAQ (y2:Str):Option Bool:=
 (pInS false y2 ("0123456789":Str)).bind fun t3=>
 some t3
theorem zEp (o0:Slot) (y2:Str):zA7 (zAi 1) mYes zCB [1] (eS y2) [o0,.no]=(zAQ y2).map fun z=>(some (eB z),[o0,.no]):=c_aa (α:=Unit) (by
 unfold zAQ;refine c_t (e2:=[o0,.val (eS y2)]) rfl ?_;walk_at "~Y ac bb d a:1 c b:2";refine c_i x_inS fun t3=>?_;walk_at "~j";refine c_ad (e1:=[o0,.no]) rfl ?_;exact rfl)
def zCt:MS:=(mSeq (mIfS (mOr (mNot (zAD (zDe (gCmp fun i j=>decide (i≤j)) (gCmp fun i j=>decide (i≤j)) (mC (.int 1)) (mCB gLen (zAe (zAc 0) mNil)) (mC c_a3)))) (mNot (zAD (mCB gAll (zAe (mLc (mItS (zAc 0)) (zAi 1) mYes zCB [1]) mNil))))) (zAI [0,1] (mC .none)) zBF)
  (mSeq (mIfS (mAnd (zAD (mOp (gEq false) (mOp gIx (zAc 0) (mC (.int 0))) (mC (.str "0")))) (zAD (mOp (gEq true) (zAc 0) (mC (.str "0"))))) (zAI [0,1] (mC .none)) zBF)
  (zAI [0,1] (mCB zKD (zAe (zAc 0) mNil)))))
def zBv:FM:=fmOf 1 2 zCt
theorem zFr (T:Tx w K mg fd):FnOk P w K mg base CX0 1 (He.ga K "plain_number") (fd 15) ["text"] (spF K zBv):=
 zCk T.jAe sc_plain_number fun cdv A outer s H E hr=>(show VSs _ _ zCt from (zAg (zBX (vt_w (zE3 (zCZ (zGi op_le (zBW (p:=fun i j=>decide (i≤j))) op_le (zBW (p:=fun i j=>decide (i≤j))) zAd (zAH call_len zEK (by rfl) T.b_len PySem.boot_len (zAb (zAa 0) zAf)) (zEn T))) (zDA (zCZ (zBz (zAH (cr_all rfl) zHq (by rfl) T.b_all (by decide+kernel) (zAb (zGj (own:=[("sign",1)]) sc_plain_number.nd (zMF (zAa 0)) (blkOk_by (own:=[("sign",1)]) (N:=["text","sign"]) (sc:=defScope zAT) (by decide+kernel)) (fun _ _ _ _ _=>(zAo (j:=1) sc_plain_number.nd)) (fun _ _ _ _ _=>zCr) (fun _ _ _ _ _=>(zDB op_inS zMZ (zAa 1) (zGN T) (by rfl))) (by decide)) zAf))))))) (zAk (zAl zDW)) zAU)
   (zAg (zBX (vt_w (zH6 (zA0 (zFp hr.units) zFu (zAY ix_seq zAZ (zAa 0) zAd (fun _ _=>rfl)) zE5 (nomark _)) (zHC (zA0 (zG4 hr.units) zG8 (zAa 0) zE5 (nomark _))))) (zAk (zAl zDW)) zAU)
   (zAk (zAl (zB7 call_int_str zMd (by rfl) T.b_int (by decide+kernel) (zAb (zAa 0) zAf)))))))
def zBc (text:Str):Option (Option Int):=
 (zKj text).bind fun t1=>
 (if (!(decide (1≤t1)&&decide (t1≤(9))))=true then
  some true
 else
  (gd ((zDY text).length≤100000)).bind fun _=>
  (mapO (zAQ) (zDY text)).bind fun l4=>
  some (!(l4.all id))).bind fun z5=>
 if z5=true then
  some (none:(Option Int))
 else
  (pIxS text 0).bind fun t6=>
  (if decide (t6=("0":Str))=true then
   some (!decide (text=("0":Str)))
  else
   some false).bind fun z7=>
  if z7=true then
   some (none:(Option Int))
  else
   (zJf text).bind fun t8=>
   some (some t8)
theorem zFT (text:Str):zBv [.val (eS text)]=(zBc text).map fun z=>(.dat ((eO eI) z),[.no]):=by
 unfold zBv zCt zBc;refine c_D (oR:=fun z:(Option Int)=>.dat ((eO eI) z)) (eR:=fun z=>[.no,.no]) [.val (eS text),.no] rfl rfl ?_ (fun _=>rfl) (fun _=>by walk_at "ik") (fun _=>rfl)
 walk_at "~l B ab R o aM c y e a:1 h";refine c_x _ rfl ?_;refine c_i zMq fun t1=>?_;walk_at "~b:2";refine c_g zDy ?_;walk_at "~M";refine c_aL (c_Z (by refine c_c ?_;exact rfl)) rfl zDy ?_
 walk_at "~n";refine c_w (fun z5=>(z5,[.val (eS text),.no])) ?_ ?_ fun z5=>?_
 ·exact rfl
 ·refine c_R ?_
  walk_at "~o y e T bu a:1 bt";refine c_S (xs:=(zDY text)) (ec:=eS) (e1:=[.val (eS text),.no]) (by exact rfl) ?_
  refine c_V (zDf (zEp (.val (eS text))) _) fun l4=>?_;walk_at "~h";refine c_x _ rfl ?_;refine c_g (zIT (l:=l4)) ?_;walk_at "~n";exact rfl
 refine c_C ?_ ?_
 ·refine c_q ?_
  walk_at "~c";refine c_p (.dat ((eO eI) (none:(Option Int)))) rfl (e2:=[.no,.no]) rfl ?_;walk_at "~E";exact rfl
 ·refine c_z ?_
  walk_at "~k l B aG o d d a:1 c b:2";refine c_i x_ixS fun t6=>?_;walk_at "~c b:2";refine c_g zGL ?_;walk_at "~n";refine c_w (fun z7=>(z7,[.val (eS text),.no])) ?_ ?_ fun z7=>?_
  ·refine c_o ?_
   walk_at "~d a:1 c b:2";refine c_g zMv ?_;walk_at "~n";exact rfl
  ·exact rfl
  refine c_C ?_ ?_
  ·refine c_q ?_
   walk_at "~c";refine c_p (.dat ((eO eI) (none:(Option Int)))) rfl (e2:=[.no,.no]) rfl ?_;walk_at "~E";exact rfl
  ·refine c_z ?_
   walk_at "~k q y e a:1 h";refine c_x _ rfl ?_;refine c_i zMr fun t8=>?_;refine c_p (.dat ((eO eI) (some t8))) rfl (e2:=[.no,.no]) rfl ?_;exact rfl
def zCQ:MS:=(mAft [4,5,6,7,8,9] (mSeq (mAsg (mBM "str" zCD (zAc 3) (zAe (zAc 4) mNil)) (zCN (zAz (zAi 6) (zAz (zAi 7) (zAz (zAi 8) zCA)))))
  (mIfS (zAD (mOp (gEq false) (zAc 7) (zAc 4))) (mSeq (mSet 9 (mFrz (zAs zBv none (zAe (zAc 6) mNil))))
  (mSeq (mIfS (zAD (mOp (gIsN false) (zAc 9) (mC .none))) (zAI [0,1,2,3,4,5,6,7,8,9] (mC .none)) zBF)
  (mSeq (zIM 2 (fun i j=>i+j) (mOp gMul (zAc 9) (zAc 5)))
  (mSet 3 (mFrz (zAc 8)))))) zBF)))
def zAu (xx:(Str×Int)) (ss:(Int×Str)):Option (Fw (Option Int) (Int×Str)):=
 (zBE ss.2 xx.1).bind fun t1=>
 if decide (t1.2.1=xx.1)=true then
  (zBc t1.1).bind fun r2=>
  Option.elim r2
   (some (.rt (none:(Option Int))))
   fun v3=>
   (pMul v3 xx.2).bind fun t5=>
   (some (ss.1+t5)).bind fun found6=>
   some (.nx (found6,t1.2.2))
 else
  some (.nx (ss.1,ss.2))
theorem zGs (o0:Slot) (o1:Slot) (xx:(Str×Int)) (ss:(Int×Str)):((zCN (zAz (zAi 4) (zAz (zAi 5) zCA))) ((eT2 eS eI) xx) [o0,o1,.val (eI ss.1),.val (eS ss.2),.no,.no,.no,.no,.no,.no]).bind zCQ=(zAu xx ss).map (outB (fun z:(Option Int)=>.dat ((eO eI) z)) (fun z=>[.no,.no,.no,.no,.no,.no,.no,.no,.no,.no]) (fun ss:(Int×Str)=>[o0,o1,.val (eI ss.1),.val (eS ss.2),.no,.no,.no,.no,.no,.no])):=c_W (by
 unfold zAu zCQ;walk_at "~af F";refine c_t (e2:=[o0,o1,.val (eI ss.1),.val (eS ss.2),.val (eS xx.1),.no,.no,.no,.no,.no]) rfl ?_;walk_at "~F";refine c_t (e2:=[o0,o1,.val (eI ss.1),.val (eS ss.2),.val (eS xx.1),.val (eI xx.2),.no,.no,.no,.no]) rfl ?_;walk_at "~ag J l aC bm a:1";refine c_bE _ rfl rfl ?_;walk_at "~e a:1 h";refine c_bD _ _ rfl rfl ?_;refine c_i zHw fun t1=>?_;walk_at "~j aB af F";refine c_t (e2:=[o0,o1,.val (eI ss.1),.val (eS ss.2),.val (eS xx.1),.val (eI xx.2),.val (eS t1.1),.no,.no,.no]) rfl ?_
 walk_at "~F";refine c_t (e2:=[o0,o1,.val (eI ss.1),.val (eS ss.2),.val (eS xx.1),.val (eI xx.2),.val (eS t1.1),.val (eS t1.2.1),.no,.no]) rfl ?_;walk_at "~F";refine c_t (e2:=[o0,o1,.val (eI ss.1),.val (eS ss.2),.val (eS xx.1),.val (eI xx.2),.val (eS t1.1),.val (eS t1.2.1),.val (eS t1.2.2),.no]) rfl ?_;walk_at "~ag k B o d a:1 a:1 b:2";refine c_g zGL ?_;walk_at "~n";refine c_C ?_ ?_
 ·refine c_l ?_
  walk_at "~u m s e a:1 h";refine c_r (bk:=fun r2=>[o0,o1,.val (eI ss.1),.val (eS ss.2),.val (eS xx.1),.val (eI xx.2),.val (eS t1.1),.val (eS t1.2.1),.val (eS t1.2.2),.no]) rfl rfl (zFT t1.1) (fun _=>by walk_at "fl") (fun _=>rfl) fun r2=>?_
  walk_at "~j";refine c_K (e2:=[o0,o1,.val (eI ss.1),.val (eS ss.2),.val (eS xx.1),.val (eI xx.2),.val (eS t1.1),.val (eS t1.2.1),.val (eS t1.2.2),.val ((eO eI) r2)]) rfl ?_;walk_at "~k l B o d a:1 c b:2";refine c_g (zLq (h:=fun _=>rfl)) ?_;walk_at "~n";refine c_bv (fun h4=>?_) (fun v3 h4=>?_)
  ·rw [h4]
   walk_at "~q c";refine c_p (.dat ((eO eI) (none:(Option Int)))) rfl (e2:=[.no,.no,.no,.no,.no,.no,.no,.no,.no,.no]) rfl ?_;walk_at "~E ao";exact rfl
  ·rw [h4]
   walk_at "~z k l bJ:1 d a:1 a:1 b:2";refine c_i zE1 fun t5=>?_;refine c_bI (f:=fun i j=>i+j) (x:=ss.1) (y:=t5) (fun found6=>[o0,o1,.val (eI found6),.val (eS ss.2),.val (eS xx.1),.val (eI xx.2),.val (eS t1.1),.val (eS t1.2.1),.val (eS t1.2.2),.val (eI v3)]) (fun _=>rfl) fun found6=>?_;walk_at "~k u m a:1 j";refine c_K (e2:=[o0,o1,.val (eI found6),.val (eS t1.2.2),.val (eS xx.1),.val (eI xx.2),.val (eS t1.1),.val (eS t1.2.1),.val (eS t1.2.2),.val (eI v3)]) rfl ?_
   refine c_G (e2:=[o0,o1,.val (eI found6),.val (eS t1.2.2),.no,.no,.no,.no,.no,.no]) rfl ?_;exact rfl
 ·refine c_z ?_
  refine c_G (e2:=[o0,o1,.val (eI ss.1),.val (eS ss.2),.no,.no,.no,.no,.no,.no]) rfl ?_;exact rfl)
def zEt:MS:=(mSeq (mSet 2 (mFrz (mC (.int 0))))
  (mSeq (mSet 3 (mFrz (zAc 0)))
  (mSeq (mBef [4,5,6,7,8,9] (mFor (mItT (zAc 1)) (zCN (zAz (zAi 4) (zAz (zAi 5) zCA))) zCQ))
  (zAI [0,1,2,3,4,5,6,7,8,9] (mIf (mAnd (zAD (mOp (gEq false) (zAc 3) (mC (.str "")))) (zAD (mOp (gEq false) (zAs zBu none (zAe (zAc 2) (zAe (zAc 1) mNil))) (zAc 0)))) (mFrz (zAc 2)) (mFrz (mC .none)))))))
def zCV:FM:=fmOf 2 10 zEt
theorem zHM (T:Tx w K mg fd):FnOk P w K mg base CX0 2 (He.ga K "units_in") (fd 16) ["text","units"] (spF K zCV):=
 zCk T.jAf sc_units_in fun cdv A outer s H E hr=>(show VSs _ _ zEt from (zAg (zAM (i:=2) sc_units_in.nd (zAh zAd))
   (zAg (zAM (i:=3) sc_units_in.nd (zAh (zAa 0)))
   (zAg (zC1 (ws:=[4,5,6,7,8,9]) (zC0 PassesOwn.never (zIX (zAa 1)) (zDV (zAE (zAo (j:=4) sc_units_in.nd) (zAE (zAo (j:=5) sc_units_in.nd) zCK)) (zAp (zAp zBo))) (zBM (ws:=[4,5,6,7,8,9]) (zAg (zGM (ve_bm PySem.F.plainAttrs_str PySem.F.slot_str_partition PySem.F.type_str_partition mt_partition zGA (zAa 3) (zAb (zAa 4) zAf)) (zDV (zAE (zAo (j:=6) sc_units_in.nd) (zAE (zAo (j:=7) sc_units_in.nd) (zAE (zAo (j:=8) sc_units_in.nd) zCK))) (zAp (zAp (zAp zBo)))))
   (zAk (zBX (zA0 (zFp hr.units) zFu (zAa 7) (zAa 4) (nomark _)) (zAg (zAM (i:=9) sc_units_in.nd (zAh (zAj none (FnOk.mono (zFr T) (by decide)) hr T.jAz T.jAe.kp (zFJ T) (zAb (zAa 6) zAf))))
   (zAg (zBX (zA0 op_isN zG9 (zAa 9) zDW (nomark _)) (zAk (zAl zDW)) zAU)
   (zAg (zLv (i:=2) ip_add sc_units_in.nd (zAm zBA zBB (zAa 9) (zAa 5)))
   (zAk (zAM (i:=3) sc_units_in.nd (zAh (zAa 8))))))) zAU))))))
   (zAk (zAl (zJ5 (vt_w (zH6 (zA0 (zFp hr.units) zFu (zAa 3) zE5 (nomark _)) (zHC (zA0 (zFp hr.units) zFu (zAj none (FnOk.mono (zD8 T) (by decide)) hr T.jAC T.jAh.kp (zEl T) (zAb (zAa 2) (zAb (zAa 1) zAf))) (zAa 0) (nomark _))))) (zAh (zAa 2)) (zAh zDW))))))))
def zCJ (text:Str) (units:(List (Str×Int))):Option (Option Int):=
 (forR (zAu) units (0,text)).bind fun w8=>w8.on (fun z=>some z) fun s7=>
  (if decide (s7.2=("":Str))=true then
   (zBj s7.1 units).bind fun r9=>
   some (decide (r9=text))
  else
   some false).bind fun z10=>
  if z10=true then
   some (some s7.1)
  else
   some (none:(Option Int))
theorem zIG (text:Str) (units:(List (Str×Int))):zCV [.val (eS text),.val ((eV (eT2 eS eI)) units)]=(zCJ text units).map fun z=>(.dat ((eO eI) z),[.no,.no]):=by
 unfold zCV zEt zCJ;refine c_D (oR:=fun z:(Option Int)=>.dat ((eO eI) z)) (eR:=fun z=>[.no,.no,.no,.no,.no,.no,.no,.no,.no,.no]) [.val (eS text),.val ((eV (eT2 eS eI)) units),.no,.no,.no,.no,.no,.no,.no,.no] rfl rfl ?_ (fun _=>rfl) (fun _=>by walk_at "ik") (fun _=>rfl)
 walk_at "~l u m c j";refine c_K (e2:=[.val (eS text),.val ((eV (eT2 eS eI)) units),.val (eI 0),.no,.no,.no,.no,.no,.no,.no]) rfl ?_;walk_at "~k l u m a:1 j";refine c_K (e2:=[.val (eS text),.val ((eV (eT2 eS eI)) units),.val (eI 0),.val (eS text),.no,.no,.no,.no,.no,.no]) rfl ?_;walk_at "~k l";refine c_X (e2:=[.val (eS text),.val ((eV (eT2 eS eI)) units),.val (eI 0),.val (eS text),.no,.no,.no,.no,.no,.no]) rfl ?_
 walk_at "~U aU a:1 j aT";refine c_ay (E:=fun sE:(Int×Str)=>[.val (eS text),.val ((eV (eT2 eS eI)) units),.val (eI sE.1),.val (eS sE.2),.no,.no,.no,.no,.no,.no]) (oR:=fun z:(Option Int)=>.dat ((eO eI) z)) (eR:=fun z=>[.no,.no,.no,.no,.no,.no,.no,.no,.no,.no]) (zF6 (E:=fun sE:(Int×Str)=>[.val (eS text),.val ((eV (eT2 eS eI)) units),.val (eI sE.1),.val (eS sE.2),.no,.no,.no,.no,.no,.no]) (oR:=fun z:(Option Int)=>.dat ((eO eI) z)) (eR:=fun z=>[.no,.no,.no,.no,.no,.no,.no,.no,.no,.no]) (ec:=(eT2 eS eI)) (zGs (.val (eS text)) (.val ((eV (eT2 eS eI)) units))) _ (0,text)) (fun z=>?_) (fun s7=>?_)
 ·refine c_E ?_
  exact rfl
 ·refine c_k ?_
  walk_at "~q if aG o d a:1 c b:2";refine c_g zGL ?_;walk_at "~n";refine c_w (fun z10=>(z10,[.val (eS text),.val ((eV (eT2 eS eI)) units),.val (eI s7.1),.val (eS s7.2),.no,.no,.no,.no,.no,.no])) ?_ ?_ fun z10=>?_
  ·refine c_o ?_
   walk_at "~d s e a:1 e a:1 h";refine c_r (bk:=fun r9=>[.val (eS text),.val ((eV (eT2 eS eI)) units),.val (eI s7.1),.val (eS s7.2),.no,.no,.no,.no,.no,.no]) rfl rfl (zEB s7.1 units) (fun _=>by walk_at "fl") (fun _=>rfl) fun r9=>?_
   walk_at "~a:1 b:2";refine c_g zGL ?_;walk_at "~n";exact rfl
  ·exact rfl
  refine c_C ?_ ?_
  ·refine c_m ?_
   walk_at "~a:1 j";refine c_p (.dat ((eO eI) (some s7.1))) rfl (e2:=[.no,.no,.no,.no,.no,.no,.no,.no,.no,.no]) rfl ?_;exact rfl
  ·refine c_m ?_
   walk_at "~c j";refine c_p (.dat ((eO eI) (none:(Option Int)))) rfl (e2:=[.no,.no,.no,.no,.no,.no,.no,.no,.no,.no]) rfl ?_;exact rfl
def zDR:MS:=(zAI [0] (zAs zCV none (zAe (zAc 0) (zAe (mC c_at) mNil))))
def zCn:FM:=fmOf 1 1 zDR
theorem zG6 (T:Tx w K mg fd):FnOk P w K mg base CX0 3 (He.ga K "weight_in") (fd 17) ["text"] (spF K zCn):=
 zCk T.jAt zGO fun cdv A outer s H E hr=>(show VSs _ _ zDR from (zAk (zAl (zAj none (FnOk.mono (zHM T) (by decide)) hr T.jAA T.jAf.kp (zH2 T) (zAb (zAa 0) (zAb (zCv T) zAf))))))
def zBI (text:Str):Option (Option Int):=
 (zCJ text zA8).bind fun r1=>
 some r1
theorem zHH (text:Str):zCn [.val (eS text)]=(zBI text).map fun z=>(.dat ((eO eI) z),[.no]):=by
 unfold zCn zDR zBI;refine c_D (oR:=fun z:(Option Int)=>.dat ((eO eI) z)) (eR:=fun z=>[.no]) [.val (eS text)] rfl rfl ?_ (fun _=>rfl) (fun _=>by walk_at "ik") (fun _=>rfl)
 walk_at "~q s e a:1 e c h";refine c_r (bk:=fun r1=>[.val (eS text)]) rfl rfl (zIG text zA8) (fun _=>by walk_at "fl") (fun _=>rfl) fun r1=>?_
 refine c_p (.dat ((eO eI) r1)) rfl (e2:=[.no]) rfl ?_;exact rfl
def zBp:MS:=(mAft [4,5] (mIfS (mOr (zAD (mOp (gEq true) (zAs zBh none (zAe (zAc 2) (zAe (zAc 5) mNil))) (mOp gDiv (zAc 3) (zAc 5)))) (zAD (mOp (gCmp fun i j=>decide (i<j)) (zAs zBh none (zAe (zAc 2) (zAe (zAc 4) mNil))) (mOp gMul (zAs zBh none (zAe (zAc 2) (zAe (zAc 5) mNil))) (mOp gDiv (zAc 5) (zAc 4)))))) (zAI [0,1,2,3,4,5,6] (mC (.bool false))) zBF))
def zAC (sacks:(List Int)) (whole:Int) (xx:(Int×Int)) (ss:Unit):Option (Fw Bool Unit):=
 (zBk sacks xx.2).bind fun r12=>
 (pDiv whole xx.2).bind fun t13=>
 (if (!decide (r12=t13))=true then
  some true
 else
  (zBk sacks xx.1).bind fun r14=>
  (zBk sacks xx.2).bind fun r15=>
  (pDiv xx.2 xx.1).bind fun t16=>
  (pMul r15 t16).bind fun t17=>
  some (decide (r14<t17))).bind fun z18=>
 if z18=true then
  some (.rt false)
 else
  some (.nx ())
theorem zD3 (o0:Slot) (o1:Slot) (sacks:(List Int)) (whole:Int) (xx:(Int×Int)) (ss:Unit):((zCN (zAz (zAi 4) (zAz (zAi 5) zCA))) ((eT2 eI eI) xx) [o0,o1,.val ((eL eI) sacks),.val (eI whole),.no,.no,.no]).bind zBp=(zAC sacks whole xx ss).map (outB (fun z:Bool=>.dat (eB z)) (fun z=>[.no,.no,.no,.no,.no,.no,.no]) (fun ss:Unit=>[o0,o1,.val ((eL eI) sacks),.val (eI whole),.no,.no,.no])):=c_W (by
 unfold zAC zBp;walk_at "~af F";refine c_t (e2:=[o0,o1,.val ((eL eI) sacks),.val (eI whole),.val (eI xx.1),.no,.no]) rfl ?_;walk_at "~F";refine c_t (e2:=[o0,o1,.val ((eL eI) sacks),.val (eI whole),.val (eI xx.1),.val (eI xx.2),.no]) rfl ?_;walk_at "~ag J B ab o d s e a:1 e a:1 h";refine c_r (bk:=fun r12=>[o0,o1,.val ((eL eI) sacks),.val (eI whole),.val (eI xx.1),.val (eI xx.2),.no]) rfl rfl (zDs sacks xx.2) (fun _=>by walk_at "fl") (fun _=>rfl) fun r12=>?_
 walk_at "~d a:1 a:1 b:2";refine c_i zFP fun t13=>?_;walk_at "~b:2";refine c_g zIS ?_;walk_at "~n";refine c_w (fun z18=>(z18,[o0,o1,.val ((eL eI) sacks),.val (eI whole),.val (eI xx.1),.val (eI xx.2),.no])) ?_ ?_ fun z18=>?_
 ·exact rfl
 ·refine c_o ?_
  walk_at "~d s e a:1 e a:1 h";refine c_r (bk:=fun r14=>[o0,o1,.val ((eL eI) sacks),.val (eI whole),.val (eI xx.1),.val (eI xx.2),.no]) rfl rfl (zDs sacks xx.1) (fun _=>by walk_at "fl") (fun _=>rfl) fun r14=>?_
  walk_at "~d s e a:1 e a:1 h";refine c_r (bk:=fun r15=>[o0,o1,.val ((eL eI) sacks),.val (eI whole),.val (eI xx.1),.val (eI xx.2),.no]) rfl rfl (zDs sacks xx.2) (fun _=>by walk_at "fl") (fun _=>rfl) fun r15=>?_
  walk_at "~d a:1 a:1 b:2";refine c_i zFP fun t16=>?_;walk_at "~b:2";refine c_i zE1 fun t17=>?_;walk_at "~b:2";refine c_g zDy ?_;walk_at "~n";exact rfl
 refine c_C ?_ ?_
 ·refine c_q ?_
  walk_at "~c";refine c_p (.dat (eB false)) rfl (e2:=[.no,.no,.no,.no,.no,.no,.no]) rfl ?_;walk_at "~ao";exact rfl
 ·refine c_z ?_
  refine c_G (e2:=[o0,o1,.val ((eL eI) sacks),.val (eI whole),.no,.no,.no]) rfl ?_;exact rfl)
def zCl:ME:=(zAs zCn none (zAe (zAs zBK none (zAe (zAc 6) mNil)) mNil))
def zAJ (y21:Int):Option (Option Int):=
 (zBx y21).bind fun r22=>
 (zBI r22).bind fun r23=>
 some r23
theorem zD2 (o0:Slot) (o1:Slot) (o2:Slot) (o3:Slot) (y21:Int):zA7 (zAi 6) mYes zCl [6] (eI y21) [o0,o1,o2,o3,.no,.no,.no]=(zAJ y21).map fun z=>(some ((eO eI) z),[o0,o1,o2,o3,.no,.no,.no]):=c_aa (α:=Unit) (by
 unfold zAJ;refine c_t (e2:=[o0,o1,o2,o3,.no,.no,.val (eI y21)]) rfl ?_;walk_at "~Y ac bb s e s e a:1 h";refine c_r (bk:=fun r22=>[o0,o1,o2,o3,.no,.no,.val (eI y21)]) rfl rfl (zGw y21) (fun _=>by walk_at "fl") (fun _=>rfl) fun r22=>?_
 walk_at "~h";refine c_r (bk:=fun r23=>[o0,o1,o2,o3,.no,.no,.val (eI y21)]) rfl rfl (zHH r22) (fun _=>by walk_at "fl") (fun _=>rfl) fun r23=>?_
 walk_at "~j";refine c_ad (e1:=[o0,o1,o2,o3,.no,.no,.no]) rfl ?_;exact rfl)
def zCb:MS:=(mSeq (zJp [2,3] (zF4 (mFrz (zAs zAF none (zAe (zAc 0) (zAe (zAc 1) mNil)))) (zF4 (mFrz (mOp gMul (mOp gDiv (mOp zHh (mOp gAdd (zAc 1) (mOp gIx (zAc 0) (mC (.int 0)))) (mC (.int 1))) (mOp gIx (zAc 0) (mC (.int 0)))) (mOp gIx (zAc 0) (mC (.int 0))))) mNil)))
  (mSeq (mIfS (mOr (zAD (mOp (gEq true) (mCB gSum (zAe (zAc 2) mNil)) (zAc 3))) (zAD (mOp (gEq true) (zAs zBh none (zAe (zAc 2) (zAe (mOp gIx (zAc 0) (mC (.int 0))) mNil))) (mOp gDiv (zAc 3) (mOp gIx (zAc 0) (mC (.int 0))))))) (zAI [0,1,2,3,4,5,6] (mC (.bool false))) zBF)
  (mSeq (mBef [4,5] (mFor (mZip (zAe (mFrz (zAc 0)) (zAe (mFrz (mSl gSlL (zAc 0) (zEf (mC (.int 1))) zCS)) mNil))) (zCN (zAz (zAi 4) (zAz (zAi 5) zCA))) zBp))
  (zAI [0,1,2,3,4,5,6] (zAs (zBt 9) none (zAe (mLc (mItL (zAc 2)) (zAi 6) mYes zCl [6]) (zAe (zAc 2) mNil)))))))
def zBe:FM:=fmOf 2 7 zCb
theorem zEM (T:Tx w K mg fd):FnOk P w K mg base CX0 11 (He.ga K "_law_sacks_right") (fd 18) ["_law_sizes_here","_law_amount"] (spF K zBe):=
 zCk T.jAo sc_w_sacks_right fun cdv A outer s H E hr=>(show VSs _ _ zCb from (zAg (zME (i:=2) (j:=3) sc_w_sacks_right.nd (zH9 (zAh (zAj none (FnOk.mono (zA4 T) (by decide)) hr T.jAy T.jAd.kp (zA5 T) (zAb (zAa 0) (zAb (zAa 1) zAf)))) (zH9 (zAh (zAm zBA zBB (zAm op_fdiv zC5 (zAm op_sub zK8 (zAm zAW zAX (zAa 1) (zAY ix_seq zAZ (zAa 0) zAd (fun _ _=>rfl))) zAd) (zAY ix_seq zAZ (zAa 0) zAd (fun _ _=>rfl))) (zAY ix_seq zAZ (zAa 0) zAd (fun _ _=>rfl)))) zLz)))
   (zAg (zBX (vt_w (zE3 (zA0 (zG4 hr.units) zG8 (zAH (cr_sum rfl) zLk (by rfl) T.b_sum (by decide+kernel) (zAb (zAa 2) zAf)) (zAa 3) (nomark _)) (zDA (zA0 (zG4 hr.units) zG8 (zAj none (FnOk.mono (zCM T) (by decide)) hr T.jAB T.jAg.kp (zCW T) (zAb (zAa 2) (zAb (zAY ix_seq zAZ (zAa 0) zAd (fun _ _=>rfl)) zAf))) (zAm op_fdiv zC5 (zAa 3) (zAY ix_seq zAZ (zAa 0) zAd (fun _ _=>rfl))) (nomark _))))) (zAk (zAl zFb)) zAU)
   (zAg (zC1 (ws:=[4,5]) (zC0 PassesOwn.never (zK1 T.b_zip (zAb (zAh (zAa 0)) (zAb (zAh (zCL sl_list zDO (zAa 0) (zB6 zAd) zDL)) zAf))) (zDV (zAE (zAo (j:=4) sc_w_sacks_right.nd) (zAE (zAo (j:=5) sc_w_sacks_right.nd) zCK)) (zAp (zAp zBo))) (zBM (ws:=[4,5]) (zAk (zBX (vt_w (zE3 (zA0 (zG4 hr.units) zG8 (zAj none (FnOk.mono (zCM T) (by decide)) hr T.jAB T.jAg.kp (zCW T) (zAb (zAa 2) (zAb (zAa 5) zAf))) (zAm op_fdiv zC5 (zAa 3) (zAa 5)) (nomark _)) (zDA (zA0 op_lt (zBW (p:=fun i j=>decide (i<j))) (zAj none (FnOk.mono (zCM T) (by decide)) hr T.jAB T.jAg.kp (zCW T) (zAb (zAa 2) (zAb (zAa 4) zAf))) (zAm zBA zBB (zAj none (FnOk.mono (zCM T) (by decide)) hr T.jAB T.jAg.kp (zCW T) (zAb (zAa 2) (zAb (zAa 5) zAf))) (zAm op_fdiv zC5 (zAa 5) (zAa 4))) (nomark _))))) (zAk (zAl zFb)) zAU)))))
   (zAk (zAl (zAj none (FnOk.mono (zC4 T 9) (by decide)) hr T.jAK T.jAp.kp (zDl T) (zAb (zGj (own:=[("_law_sack",6)]) sc_w_sacks_right.nd (zDM (zAa 2)) (blkOk_by (own:=[("_law_sack",6)]) (N:=["_law_sizes_here","_law_amount","_law_sacks","_law_whole","_law_size","_law_other","_law_sack"]) (sc:=defScope zAN) (by decide+kernel)) (fun _ _ _ _ _=>(zAo (j:=6) sc_w_sacks_right.nd)) (fun _ _ _ _ _=>zCr) (fun _ _ _ _ _=>(zAj none (FnOk.mono (zG6 T) (by decide)) hr T.jAO T.jAt.kp (zHt T) (zAb (zAj none (FnOk.mono (zFV T) (by decide)) hr T.jAP T.jAu.kp (zFW T) (zAb (zAa 6) zAf)) zAf))) (by decide)) (zAb (zAa 2) zAf)))))))))
def zA2 (sizes:(List Int)) (amount:Int):Option Bool:=
 (zAr sizes amount).bind fun r1=>
 (pIx sizes 0).bind fun t2=>
 (pIx sizes 0).bind fun t3=>
 (pDiv ((amount+t2) - 1) t3).bind fun t4=>
 (pIx sizes 0).bind fun t5=>
 (pMul t4 t5).bind fun t6=>
 (if (!decide (r1.sum=t6))=true then
  some true
 else
  (pIx sizes 0).bind fun t7=>
  (zBk r1 t7).bind fun r8=>
  (pIx sizes 0).bind fun t9=>
  (pDiv t6 t9).bind fun t10=>
  some (!decide (r8=t10))).bind fun z11=>
 if z11=true then
  some false
 else
  (forR (zAC r1 t6) (sizes.zip (cutL sizes (some 1) none)) ()).bind fun w20=>w20.on (fun z=>some z) fun s19=>
   (gd (r1.length≤100000)).bind fun _=>
   (mapO (zAJ) r1).bind fun l24=>
   (zBg 9 ((eL (eO eI)) l24) ((eL eI) r1)).bind fun r25=>
   some r25
theorem zFn (sizes:(List Int)) (amount:Int):zBe [.val ((eL eI) sizes),.val (eI amount)]=(zA2 sizes amount).map fun z=>(.dat (eB z),[.no,.no]):=by
 unfold zBe zCb zA2;refine c_D (oR:=fun z:Bool=>.dat (eB z)) (eR:=fun z=>[.no,.no,.no,.no,.no,.no,.no]) [.val ((eL eI) sizes),.val (eI amount),.no,.no,.no,.no,.no] rfl rfl ?_ (fun _=>rfl) (fun _=>by walk_at "ik") (fun _=>rfl)
 walk_at "~l bo aZ m s e a:1 e a:1 h";refine c_r (bk:=fun r1=>[.val ((eL eI) sizes),.val (eI amount),.no,.no,.no,.no,.no]) rfl rfl (zBi sizes amount) (fun _=>by walk_at "fl") (fun _=>rfl) fun r1=>?_
 walk_at "~L aX aZ m d d d d a:1 d a:1 c b:2";refine c_i (x_ix (e:=eI) (l:=sizes)) fun t2=>?_;walk_at "~b:2";refine c_g zCq ?_;walk_at "~c b:2";refine c_g zMo ?_;walk_at "~d a:1 c b:2";refine c_i (x_ix (e:=eI) (l:=sizes)) fun t3=>?_;walk_at "~b:2";refine c_i zFP fun t4=>?_;walk_at "~d a:1 c b:2";refine c_i (x_ix (e:=eI) (l:=sizes)) fun t5=>?_;walk_at "~b:2";refine c_i zE1 fun t6=>?_;walk_at "~j aX h"
 refine c_bn [.val ((eL eI) sizes),.val (eI amount),.val ((eL eI) r1),.val (eI t6),.no,.no,.no] rfl ?_;walk_at "~k l B ab o d y e a:1 h";refine c_x _ rfl ?_;refine c_g (zMn (l:=r1)) ?_;walk_at "~a:1 b:2";refine c_g zIS ?_;walk_at "~n";refine c_w (fun z11=>(z11,[.val ((eL eI) sizes),.val (eI amount),.val ((eL eI) r1),.val (eI t6),.no,.no,.no])) ?_ ?_ fun z11=>?_
 ·exact rfl
 ·refine c_o ?_
  walk_at "~d s e a:1 e d a:1 c b:2";refine c_i (x_ix (e:=eI) (l:=sizes)) fun t7=>?_;walk_at "~h";refine c_r (bk:=fun r8=>[.val ((eL eI) sizes),.val (eI amount),.val ((eL eI) r1),.val (eI t6),.no,.no,.no]) rfl rfl (zDs r1 t7) (fun _=>by walk_at "fl") (fun _=>rfl) fun r8=>?_
  walk_at "~d a:1 d a:1 c b:2";refine c_i (x_ix (e:=eI) (l:=sizes)) fun t9=>?_;walk_at "~b:2";refine c_i zFP fun t10=>?_;walk_at "~b:2";refine c_g zIS ?_;walk_at "~n";exact rfl
 refine c_C ?_ ?_
 ·refine c_q ?_
  walk_at "~c";refine c_p (.dat (eB false)) rfl (e2:=[.no,.no,.no,.no,.no,.no,.no]) rfl ?_;walk_at "~E";exact rfl
 ·refine c_z ?_
  walk_at "~k l";refine c_X (e2:=[.val ((eL eI) sizes),.val (eI amount),.val ((eL eI) r1),.val (eI t6),.no,.no,.no]) rfl ?_;walk_at "~U aO e m a:1 j e m sl a:1 Q c P am";refine c_aj _ rfl ?_;refine c_g zHy ?_;walk_at "~L h";refine c_aN (l:=sizes) (ec:=eI) (l':=(cutL sizes (some 1) none)) (ed:=eI) rfl ?_;refine c_ay (E:=fun sE:Unit=>[.val ((eL eI) sizes),.val (eI amount),.val ((eL eI) r1),.val (eI t6),.no,.no,.no]) (oR:=fun z:Bool=>.dat (eB z)) (eR:=fun z=>[.no,.no,.no,.no,.no,.no,.no]) (zF6 (E:=fun sE:Unit=>[.val ((eL eI) sizes),.val (eI amount),.val ((eL eI) r1),.val (eI t6),.no,.no,.no]) (oR:=fun z:Bool=>.dat (eB z)) (eR:=fun z=>[.no,.no,.no,.no,.no,.no,.no]) (ec:=(eT2 eI eI)) (zD3 (.val ((eL eI) sizes)) (.val (eI amount)) r1 t6) _ ()) (fun z=>?_) (fun s19=>?_)
  ·refine c_E ?_
   exact rfl
  ·refine c_k ?_
   walk_at "~q s e T ar a:1 j aq";refine c_S (xs:=r1) (ec:=eI) (e1:=[.val ((eL eI) sizes),.val (eI amount),.val ((eL eI) r1),.val (eI t6),.no,.no,.no]) (by exact rfl) ?_
   refine c_V (zDf (zD2 (.val ((eL eI) sizes)) (.val (eI amount)) (.val ((eL eI) r1)) (.val (eI t6))) _) fun l24=>?_;walk_at "~e a:1 h";refine c_r (bk:=fun r25=>[.val ((eL eI) sizes),.val (eI amount),.val ((eL eI) r1),.val (eI t6),.no,.no,.no]) rfl rfl (zD6 9 ((eL (eO eI)) l24) ((eL eI) r1)) (fun _=>by walk_at "fl") (fun _=>rfl) fun r25=>?_
   refine c_p (.dat (eB r25)) rfl (e2:=[.no,.no,.no,.no,.no,.no,.no]) rfl ?_;exact rfl
def zBq:MS:=(mAft [3,4,5,6] (mSeq (mSet 4 (mFrz (zAs zDi (some 0) (zAe (zAc 0) (zAe (mOp gAdd (mOp gMul (mC (.int 40)) (mOp gIx (zAc 2) (mUn gNeg (mC (.int 1))))) (mC (.int 1))) mNil)))))
  (mSeq (mIfS (mOr (mNot (zAD (zAs zCh none (zAe (zAc 2) mNil)))) (mOr (mNot (zAD (zAs zBe none (zAe (zAc 2) (zAe (zAc 4) mNil))))) (zAD (zAs zCh none (zAe (mOp gAdd (zAc 2) (mSl gSlL (zAc 2) (zEf (mUn gNeg (mC (.int 1)))) zCS)) mNil))))) (zAI [1,2,3,4,5,6] (mC (.bool false))) zBF)
  (mSeq (mSet 5 (mFrz (zAs zAF none (zAe (zAc 2) (zAe (zAc 4) mNil)))))
  (mSeq (zEO (mMut 2 fExt (zAe (mFrz (mSl gSlL (zAc 1) (zEf (zAc 3)) (zEf (mOp gAdd (zAc 3) (mC (.int 1)))))) mNil)))
  (mSeq (mSet 6 (mFrz (mOp gMul (mOp gDiv (mOp zHh (mOp gAdd (zAc 4) (mOp gIx (zAc 2) (mC (.int 0)))) (mC (.int 1))) (mOp gIx (zAc 2) (mC (.int 0)))) (mOp gIx (zAc 2) (mC (.int 0))))))
  (mSeq (mIfS (mAnd (zAD (mOp (gCmp fun i j=>decide (i<j)) (zAc 6) (mOp gIx (zAc 2) (mUn gNeg (mC (.int 1)))))) (mAnd (zAD (mOp (gCmp fun i j=>decide (i<j)) (zAc 3) (mCB gLen (zAe (zAc 1) mNil)))) (zAD (mOp (gEq true) (zAs zAF none (zAe (zAc 2) (zAe (zAc 4) mNil))) (zAc 5))))) (zAI [1,2,3,4,5,6] (mC (.bool false))) zBF)
  (mIfS (zAD (mOp (gEq true) (zAc 2) (mSl gSlL (zAc 1) zCS (zEf (mOp gAdd (zAc 3) (mC (.int 1))))))) (zAI [1,2,3,4,5,6] (mC (.bool false))) zBF))))))))
def zAK (sizes:(List Int)) (xx:Int) (ss:((List Int)×(List Int))):Option (Fw (Bool×(List Int)) ((List Int)×(List Int))):=
 (pIx ss.2 (-1)).bind fun t3=>
 (zDx ss.1 ((40*t3)+1)).bind fun r4=>
 (zBl ss.2).bind fun r5=>
 (if (!r5)=true then
  some true
 else
  (zA2 ss.2 r4.1).bind fun r6=>
  (if (!r6)=true then
   some true
  else
   (pCat ss.2 (cutL ss.2 (some (-1)) none)).bind fun t7=>
   (zBl t7).bind fun r8=>
   some r8).bind fun z9=>
  some z9).bind fun z10=>
 if z10=true then
  some (.rt (false,r4.2))
 else
  (zAr ss.2 r4.1).bind fun r11=>
  (pCat ss.2 (cutL sizes (some xx) (some (xx+1)))).bind fun own12=>
  (pIx own12 0).bind fun t13=>
  (pIx own12 0).bind fun t14=>
  (pDiv ((r4.1+t13) - 1) t14).bind fun t15=>
  (pIx own12 0).bind fun t16=>
  (pMul t15 t16).bind fun t17=>
  (pIx own12 (-1)).bind fun t18=>
  (if decide (t17<t18)=true then
   (if decide (xx<(sizes.length:Int))=true then
    (zAr own12 r4.1).bind fun r19=>
    some (!decide (r19=r11))
   else
    some false).bind fun z20=>
   some z20
  else
   some false).bind fun z21=>
  if z21=true then
   some (.rt (false,r4.2))
  else
   if (!decide (own12=(cutL sizes none (some (xx+1)))))=true then
    some (.rt (false,r4.2))
   else
    some (.nx (r4.2,own12))
theorem zD4 (sizes:(List Int)) (xx:Int) (ss:((List Int)×(List Int))):((zAi 3) (eI xx) [.io 0 (.lst (ss.1.map eI)),.val ((eL eI) sizes),.own (.lst (ss.2.map eI)),.no,.no,.no,.no]).bind zBq=(zAK sizes xx ss).map (outB (fun z:(Bool×(List Int))=>.dat (eB z.1)) (fun z=>[.io 0 (.lst (z.2.map eI)),.no,.no,.no,.no,.no,.no]) (fun ss:((List Int)×(List Int))=>[.io 0 (.lst (ss.1.map eI)),.val ((eL eI) sizes),.own (.lst (ss.2.map eI)),.no,.no,.no,.no])):=c_W (by
 unfold zAK zBq;refine c_t (e2:=[.io 0 (.lst (ss.1.map eI)),.val ((eL eI) sizes),.own (.lst (ss.2.map eI)),.val (eI xx),.no,.no,.no]) rfl ?_;walk_at "~J l u m s e A:1 e d d c d v:1 O c N:1";refine c_g zE0 ?_;walk_at "~b:2";refine c_i (x_ix (e:=eI) (l:=ss.2)) fun t3=>?_;walk_at "~b:2";refine c_g (zH3 (by decide)) ?_
 walk_at "~c b:2";refine c_g zCq ?_;walk_at "~h";refine c_r (bk:=fun r4=>[.io 0 (.lst (r4.2.map eI)),.val ((eL eI) sizes),.own (.lst (ss.2.map eI)),.val (eI xx),.no,.no,.no]) rfl rfl (zIc ss.1 ((40*t3)+1)) (fun _=>by walk_at "fl") (fun _=>rfl) fun r4=>?_
 walk_at "~j";refine c_K (e2:=[.io 0 (.lst (r4.2.map eI)),.val ((eL eI) sizes),.own (.lst (ss.2.map eI)),.val (eI xx),.val (eI r4.1),.no,.no]) rfl ?_;walk_at "~k l B ab R o s e v:1 h";refine c_r (bk:=fun r5=>[.io 0 (.lst (r4.2.map eI)),.val ((eL eI) sizes),.own (.lst (ss.2.map eI)),.val (eI xx),.val (eI r4.1),.no,.no]) rfl rfl (zF1 ss.2) (fun _=>by walk_at "fl") (fun _=>rfl) fun r5=>?_
 walk_at "~n";refine c_w (fun z10=>(z10,[.io 0 (.lst (r4.2.map eI)),.val ((eL eI) sizes),.own (.lst (ss.2.map eI)),.val (eI xx),.val (eI r4.1),.no,.no])) ?_ ?_ fun z10=>?_
 ·exact rfl
 ·refine c_ab ?_
  walk_at "~R o s e v:1 e a:1 h";refine c_r (bk:=fun r6=>[.io 0 (.lst (r4.2.map eI)),.val ((eL eI) sizes),.own (.lst (ss.2.map eI)),.val (eI xx),.val (eI r4.1),.no,.no]) rfl rfl (zFn ss.2 r4.1) (fun _=>by walk_at "fl") (fun _=>rfl) fun r6=>?_
  walk_at "~n";refine c_w (fun z9=>(z9,[.io 0 (.lst (r4.2.map eI)),.val ((eL eI) sizes),.own (.lst (ss.2.map eI)),.val (eI xx),.val (eI r4.1),.no,.no])) ?_ ?_ fun z9=>?_
  ·exact rfl
  ·refine c_o ?_
   walk_at "~s e d v:1 sl v:1 Q O c N:1";refine c_g zE0 ?_;walk_at "~P am";refine c_aj _ rfl ?_;refine c_g zHy ?_;walk_at "~b:2";refine c_i (x_cat (e:=eI)) fun t7=>?_;walk_at "~h";refine c_r (bk:=fun r8=>[.io 0 (.lst (r4.2.map eI)),.val ((eL eI) sizes),.own (.lst (ss.2.map eI)),.val (eI xx),.val (eI r4.1),.no,.no]) rfl rfl (zF1 t7) (fun _=>by walk_at "fl") (fun _=>rfl) fun r8=>?_
   walk_at "~n";exact rfl
  exact rfl
 refine c_C ?_ ?_
 ·refine c_q ?_
  walk_at "~c";refine c_p (.dat (eB false)) rfl (e2:=[.io 0 (.lst (r4.2.map eI)),.no,.no,.no,.no,.no,.no]) rfl ?_;walk_at "~E ao";exact rfl
 ·refine c_z ?_
  walk_at "~k l u m s e v:1 e a:1 h";refine c_r (bk:=fun r11=>[.io 0 (.lst (r4.2.map eI)),.val ((eL eI) sizes),.own (.lst (ss.2.map eI)),.val (eI xx),.val (eI r4.1),.no,.no]) rfl rfl (zBi ss.2 r4.1) (fun _=>by walk_at "fl") (fun _=>rfl) fun r11=>?_
  walk_at "~L";refine c_K (e2:=[.io 0 (.lst (r4.2.map eI)),.val ((eL eI) sizes),.own (.lst (ss.2.map eI)),.val (eI xx),.val (eI r4.1),.val ((eL eI) r11),.no]) rfl ?_;walk_at "~k l an ax:1 e m sl a:1 Q a:1 P Q d a:1 c b:2";refine c_g zCq ?_;walk_at "~P";refine c_aj _ rfl ?_;refine c_g zHy ?_;walk_at "~L h";refine c_aw [.list ((cutL sizes (some xx) (some (xx+1))).map eI)] (ss.2.map eI) (fun own12=>[.io 0 (.lst (r4.2.map eI)),.val ((eL eI) sizes),.own (.lst (own12.map eI)),.val (eI xx),.val (eI r4.1),.val ((eL eI) r11),.no]) rfl rfl (zMu (e:=eI) (l:=ss.2) (l':=(cutL sizes (some xx) (some (xx+1))))) (fun _=>rfl) fun own12=>?_
  walk_at "~k l u m d d d d a:1 d v:1 c b:2";refine c_i (x_ix (e:=eI) (l:=own12)) fun t13=>?_;walk_at "~b:2";refine c_g zCq ?_;walk_at "~c b:2";refine c_g zMo ?_;walk_at "~d v:1 c b:2";refine c_i (x_ix (e:=eI) (l:=own12)) fun t14=>?_;walk_at "~b:2";refine c_i zFP fun t15=>?_;walk_at "~d v:1 c b:2";refine c_i (x_ix (e:=eI) (l:=own12)) fun t16=>?_;walk_at "~b:2";refine c_i zE1 fun t17=>?_;walk_at "~j"
  refine c_K (e2:=[.io 0 (.lst (r4.2.map eI)),.val ((eL eI) sizes),.own (.lst (own12.map eI)),.val (eI xx),.val (eI r4.1),.val ((eL eI) r11),.val (eI t17)]) rfl ?_;walk_at "~k l B aG o d a:1 d v:1 O c N:1";refine c_g zE0 ?_;walk_at "~b:2";refine c_i (x_ix (e:=eI) (l:=own12)) fun t18=>?_;walk_at "~b:2";refine c_g zDy ?_;walk_at "~n";refine c_w (fun z21=>(z21,[.io 0 (.lst (r4.2.map eI)),.val ((eL eI) sizes),.own (.lst (own12.map eI)),.val (eI xx),.val (eI r4.1),.val ((eL eI) r11),.val (eI t17)])) ?_ ?_ fun z21=>?_
  ·refine c_aG ?_
   walk_at "~o d a:1 y e a:1 h";refine c_x _ rfl ?_;refine c_g (zGK (e:=eI) (l:=sizes)) ?_;walk_at "~b:2";refine c_g zDy ?_;walk_at "~n";refine c_w (fun z20=>(z20,[.io 0 (.lst (r4.2.map eI)),.val ((eL eI) sizes),.own (.lst (own12.map eI)),.val (eI xx),.val (eI r4.1),.val ((eL eI) r11),.val (eI t17)])) ?_ ?_ fun z20=>?_
   ·refine c_o ?_
    walk_at "~d s e v:1 e a:1 h";refine c_r (bk:=fun r19=>[.io 0 (.lst (r4.2.map eI)),.val ((eL eI) sizes),.own (.lst (own12.map eI)),.val (eI xx),.val (eI r4.1),.val ((eL eI) r11),.val (eI t17)]) rfl rfl (zBi own12 r4.1) (fun _=>by walk_at "fl") (fun _=>rfl) fun r19=>?_
    walk_at "~a:1 b:2";refine c_g (zIR (a:=r19) (b:=r11)) ?_;walk_at "~n";exact rfl
   ·exact rfl
   exact rfl
  ·exact rfl
  refine c_C ?_ ?_
  ·refine c_q ?_
   walk_at "~c";refine c_p (.dat (eB false)) rfl (e2:=[.io 0 (.lst (r4.2.map eI)),.no,.no,.no,.no,.no,.no]) rfl ?_;walk_at "~E ao";exact rfl
  ·refine c_z ?_
   walk_at "~k B o d v:1 sl a:1 am Q d a:1 c b:2";refine c_g zCq ?_;walk_at "~P";refine c_aj _ rfl ?_;refine c_g zHy ?_;walk_at "~b:2";refine c_g (zIR (a:=own12) (b:=(cutL sizes none (some (xx+1))))) ?_;walk_at "~n";refine c_C ?_ ?_
   ·refine c_q ?_
    walk_at "~c";refine c_p (.dat (eB false)) rfl (e2:=[.io 0 (.lst (r4.2.map eI)),.no,.no,.no,.no,.no,.no]) rfl ?_;walk_at "~ao";exact rfl
   ·refine c_z ?_
    refine c_G (e2:=[.io 0 (.lst (r4.2.map eI)),.val ((eL eI) sizes),.own (.lst (own12.map eI)),.no,.no,.no,.no]) rfl ?_;exact rfl)
def zCd:MS:=(mSeq (mSet 2 (mCB zIO (zAe (mSl gSlL (zAc 1) zCS (zEf (mC (.int 1)))) mNil)))
  (mSeq (mBef [3,4,5,6] (mFor (zFA (zAe (mC (.int 1)) (zAe (mOp gAdd (mCB gLen (zAe (zAc 1) mNil)) (mC (.int 1))) mNil))) (zAi 3) zBq))
  (mSeq (zEO (mMut 2 fPop mNil))
  (zAI [1,2,3,4,5,6] (mOrV (mOp (gEq false) (zAc 2) (mLst mNil)) (zAs (zBt 9) none (zAe (zAs zAF none (zAe (zAc 2) (zAe (mOp gIx (zAc 2) (mUn gNeg (mC (.int 1)))) mNil))) (zAe (mSl gSlL (zAc 2) (zEf (mUn gNeg (mC (.int 1)))) zCS) mNil))))))))
def zBf:FM:=fmOf 2 7 zCd
theorem zEN (T:Tx w K mg fd):FnOk P w K mg base CX0 12 (He.ga K "_law_grown_right") (fd 19) ["_law_box_here","_law_sizes_here"] (spF K zBf):=
 zCk T.jAl sc_w_grown_right fun cdv A outer s H E hr=>(show VSs _ _ zCd from (zAg (zAM (i:=2) sc_w_grown_right.nd (zB7 call_list_of zHZ (by rfl) T.b_list (by decide+kernel) (zAb (zCL sl_list zDO (zAa 1) zDL (zB6 zAd)) zAf)))
   (zAg (zC1 (ws:=[3,4,5,6]) (zC0 PassesOwn.never (zIZ T.b_range (zAb zAd (zAb (zAm zAW zAX (zAH call_len zEK (by rfl) T.b_len PySem.boot_len (zAb (zAa 1) zAf)) zAd) zAf))) (zAo (j:=3) sc_w_grown_right.nd) (zBM (ws:=[3,4,5,6]) (zAg (zAM (i:=4) sc_w_grown_right.nd (zAh (zAj (some 0) (FnOk.mono (zG7 T) (by decide)) hr T.jAN T.jAs.kp (zHu T) (zAb (zAa 0) (zAb (zAm zAW zAX (zAm zBA zBB zAd (zAY ix_seq zAZ (zAa 2) (zE4 un_neg zC2 zAd) (fun _ _=>rfl))) zAd) zAf)))))
   (zAg (zBX (vt_w (zE3 (zCZ (zBz (zAj none (FnOk.mono (zFs T) (by decide)) hr T.jAx T.jAb.kp (zFK T) (zAb (zAa 2) zAf)))) (zE3 (zCZ (zBz (zAj none (FnOk.mono (zEM T) (by decide)) hr T.jAJ T.jAo.kp (zEQ T) (zAb (zAa 2) (zAb (zAa 4) zAf))))) (zDA (zBz (zAj none (FnOk.mono (zFs T) (by decide)) hr T.jAx T.jAb.kp (zFK T) (zAb (zAm zAW zAX (zAa 2) (zCL sl_list zDO (zAa 2) (zB6 (zE4 un_neg zC2 zAd)) zDL)) zAf))))))) (zAk (zAl zFb)) zAU)
   (zAg (zAM (i:=5) sc_w_grown_right.nd (zAh (zAj none (FnOk.mono (zA4 T) (by decide)) hr T.jAy T.jAd.kp (zA5 T) (zAb (zAa 2) (zAb (zAa 4) zAf)))))
   (zAg (zEm (zH8 (i:=2) PySem.F.slot_list_extend PySem.F.type_list_extend mt_extend zHb (zAb (zAh (zCL sl_list zDO (zAa 1) (zB6 (zAa 3)) (zB6 (zAm zAW zAX (zAa 3) zAd)))) zAf)))
   (zAg (zAM (i:=6) sc_w_grown_right.nd (zAh (zAm zBA zBB (zAm op_fdiv zC5 (zAm op_sub zK8 (zAm zAW zAX (zAa 4) (zAY ix_seq zAZ (zAa 2) zAd (fun _ _=>rfl))) zAd) (zAY ix_seq zAZ (zAa 2) zAd (fun _ _=>rfl))) (zAY ix_seq zAZ (zAa 2) zAd (fun _ _=>rfl)))))
   (zAg (zBX (vt_w (zH6 (zA0 op_lt (zBW (p:=fun i j=>decide (i<j))) (zAa 6) (zAY ix_seq zAZ (zAa 2) (zE4 un_neg zC2 zAd) (fun _ _=>rfl)) (nomark _)) (zH6 (zA0 op_lt (zBW (p:=fun i j=>decide (i<j))) (zAa 3) (zAH call_len zEK (by rfl) T.b_len PySem.boot_len (zAb (zAa 1) zAf)) (nomark _)) (zHC (zA0 (zG4 hr.units) zG8 (zAj none (FnOk.mono (zA4 T) (by decide)) hr T.jAy T.jAd.kp (zA5 T) (zAb (zAa 2) (zAb (zAa 4) zAf))) (zAa 5) (nomark _)))))) (zAk (zAl zFb)) zAU)
   (zAk (zBX (zA0 (zG4 hr.units) zG8 (zAa 2) (zCL sl_list zDO (zAa 1) zDL (zB6 (zAm zAW zAX (zAa 3) zAd))) (nomark _)) (zAk (zAl zFb)) zAU)))))))))))
   (zAg (zEm (zLy (i:=2) PySem.F.slot_list_pop PySem.F.type_list_pop mt_pop zM0))
   (zAk (zAl (ve_or (zDB (zFp hr.units) zFu (zAa 2) (zEA zAf) (nomark _)) (zE7 (zAj none (FnOk.mono (zC4 T 9) (by decide)) hr T.jAK T.jAp.kp (zDl T) (zAb (zAj none (FnOk.mono (zA4 T) (by decide)) hr T.jAy T.jAd.kp (zA5 T) (zAb (zAa 2) (zAb (zAY ix_seq zAZ (zAa 2) (zE4 un_neg zC2 zAd) (fun _ _=>rfl)) zAf))) (zAb (zCL sl_list zDO (zAa 2) (zB6 (zE4 un_neg zC2 zAd)) zDL) zAf)))))))))))
def zA3 (box:(List Int)) (sizes:(List Int)):Option (Bool×(List Int)):=
 (some (cutL sizes none (some 1))).bind fun own1=>
 (zHK 1 ((sizes.length:Int)+1)).bind fun l2=>
 (forR (zAK sizes) l2 (box,own1)).bind fun w23=>w23.on (fun z=>some z) fun s22=>
  (zJe s22.2).bind fun z24=>
  (if decide (z24.2=([]:(List Int)))=true then
   some true
  else
   (pIx z24.2 (-1)).bind fun t25=>
   (zAr z24.2 t25).bind fun r26=>
   (zBg 9 ((eL eI) r26) ((eL eI) (cutL z24.2 (some (-1)) none))).bind fun r27=>
   some r27).bind fun z28=>
  some (z28,s22.1)
theorem zFo (box:(List Int)) (sizes:(List Int)):zBf [.io 0 (.lst (box.map eI)),.val ((eL eI) sizes)]=(zA3 box sizes).map fun z=>(.dat (eB z.1),[.io 0 (.lst (z.2.map eI)),.no]):=by
 unfold zBf zCd zA3;refine c_D (oR:=fun z:(Bool×(List Int))=>.dat (eB z.1)) (eR:=fun z=>[.io 0 (.lst (z.2.map eI)),.no,.no,.no,.no,.no,.no]) [.io 0 (.lst (box.map eI)),.val ((eL eI) sizes),.no,.no,.no,.no,.no] rfl rfl ?_ (fun _=>rfl) (fun _=>by walk_at "ik") (fun _=>rfl)
 walk_at "~l u y e sl a:1 am Q c P";refine c_aj _ rfl ?_;refine c_g zHy ?_;walk_at "~h";refine c_x _ rfl ?_;refine c_g zHx ?_;refine c_au (τ:=Int) eI (cutL sizes none (some 1)) (fun own1=>[.io 0 (.lst (box.map eI)),.val ((eL eI) sizes),.own (.lst (own1.map eI)),.no,.no,.no,.no]) (fun _=>rfl) fun own1=>?_;walk_at "~k l";refine c_X (e2:=[.io 0 (.lst (box.map eI)),.val ((eL eI) sizes),.own (.lst (own1.map eI)),.no,.no,.no,.no]) rfl ?_
 walk_at "~U bh e c e d y e a:1 h";refine c_x _ rfl ?_;refine c_g (zGK (e:=eI) (l:=sizes)) ?_;walk_at "~c b:2";refine c_g zCq ?_;walk_at "~h";refine c_bg rfl fun l2=>?_;refine c_ay (E:=fun sE:((List Int)×(List Int))=>[.io 0 (.lst (sE.1.map eI)),.val ((eL eI) sizes),.own (.lst (sE.2.map eI)),.no,.no,.no,.no]) (oR:=fun z:(Bool×(List Int))=>.dat (eB z.1)) (eR:=fun z=>[.io 0 (.lst (z.2.map eI)),.no,.no,.no,.no,.no,.no]) (zF6 (E:=fun sE:((List Int)×(List Int))=>[.io 0 (.lst (sE.1.map eI)),.val ((eL eI) sizes),.own (.lst (sE.2.map eI)),.no,.no,.no,.no]) (oR:=fun z:(Bool×(List Int))=>.dat (eB z.1)) (eR:=fun z=>[.io 0 (.lst (z.2.map eI)),.no,.no,.no,.no,.no,.no]) (ec:=eI) (zD4 sizes) _ (box,own1)) (fun z=>?_) (fun s22=>?_)
 ·refine c_E ?_
  exact rfl
 ·refine c_k ?_
  walk_at "~l an ax:1 h";refine c_aw [] (s22.2.map eI) (fun z24=>[.io 0 (.lst (s22.1.map eI)),.val ((eL eI) sizes),.own (.lst (z24.2.map eI)),.no,.no,.no,.no]) rfl rfl (zMp (e:=eI) (l:=s22.2)) (fun _=>rfl) fun z24=>?_;walk_at "~k q bq d v:1 ai h";refine c_ah (([]:List Int).map eI) rfl (oP rfl) ?_;walk_at "~b:2";refine c_g (zLr (a:=z24.2) (b:=([]:(List Int)))) ?_;walk_at "~M";refine c_w (fun z28=>(.dat (.bool z28),[.io 0 (.lst (s22.1.map eI)),.val ((eL eI) sizes),.own (.lst (z24.2.map eI)),.no,.no,.no,.no])) ?_ ?_ fun z28=>?_
  ·exact rfl
  ·refine c_s ?_
   walk_at "~e s e v:1 e d v:1 O c N:1";refine c_g zE0 ?_;walk_at "~b:2";refine c_i (x_ix (e:=eI) (l:=z24.2)) fun t25=>?_;walk_at "~h";refine c_r (bk:=fun r26=>[.io 0 (.lst (s22.1.map eI)),.val ((eL eI) sizes),.own (.lst (z24.2.map eI)),.no,.no,.no,.no]) rfl rfl (zBi z24.2 t25) (fun _=>by walk_at "fl") (fun _=>rfl) fun r26=>?_
   walk_at "~e sl v:1 Q O c N:1";refine c_g zE0 ?_;walk_at "~P am";refine c_aj _ rfl ?_;refine c_g zHy ?_;walk_at "~h";refine c_r (bk:=fun r27=>[.io 0 (.lst (s22.1.map eI)),.val ((eL eI) sizes),.own (.lst (z24.2.map eI)),.no,.no,.no,.no]) rfl rfl (zD6 9 ((eL eI) r26) ((eL eI) (cutL z24.2 (some (-1)) none))) (fun _=>by walk_at "fl") (fun _=>rfl) fun r27=>?_
   exact rfl
  refine c_p (.dat (eB z28)) rfl (e2:=[.io 0 (.lst (s22.1.map eI)),.no,.no,.no,.no,.no,.no]) rfl ?_;exact rfl
def zEE:ME:=(mTup (zAe (mFrz (mOp gMod (zAc 9) (mC (.int 2)))) (zAe (mFrz (zAs zDi (some 0) (zAe (zAc 0) (zAe (mOp gAdd (mOp gMul (mC (.int 40)) (mOp gIx (mOp gIx (zAc 1) (mOp gMod (zAc 9) (mC (.int 2)))) (mUn gNeg (mC (.int 1))))) (mC (.int 1))) mNil)))) mNil)))
def zBT (rows:(List (List Int))) (y5:Int) (ss:(List Int)):Option ((Int×Int)×(List Int)):=
 (pIx rows (y5 % 2)).bind fun t6=>
 (pIx t6 (-1)).bind fun t7=>
 (zDx ss ((40*t7)+1)).bind fun r8=>
 some (((y5 % 2),r8.1),r8.2)
theorem zGT (rows:(List (List Int))) (y5:Int) (ss:(List Int)):zA7 (zAi 9) mYes zEE [9] (eI y5) [.io 0 (.lst (ss.map eI)),.val ((eL (eL eI)) rows),.no,.no,.no,.no,.no,.no,.no,.no,.no]=(zBT rows y5 ss).map fun z=>(some ((eT2 eI eI) z.1),[.io 0 (.lst (z.2.map eI)),.val ((eL (eL eI)) rows),.no,.no,.no,.no,.no,.no,.no,.no,.no]):=c_aa (α:=Unit) (by
 unfold zBT;refine c_t (e2:=[.io 0 (.lst (ss.map eI)),.val ((eL (eL eI)) rows),.no,.no,.no,.no,.no,.no,.no,.val (eI y5),.no]) rfl ?_;walk_at "~Y ac bb a9 e m d a:1 c b:2";refine c_g (zEy (by decide)) ?_
 walk_at "~j e m s e A:1 e d d c d d a:1 d a:1 c b:2";refine c_g (zEy (by decide)) ?_
 walk_at "~b:2";refine c_i (x_ix (e:=(eL eI)) (l:=rows)) fun t6=>?_;walk_at "~O c N:1";refine c_g zE0 ?_;walk_at "~b:2";refine c_i (x_ix (e:=eI) (l:=t6)) fun t7=>?_;walk_at "~b:2";refine c_g (zH3 (by decide)) ?_
 walk_at "~c b:2";refine c_g zCq ?_;walk_at "~h";refine c_r (bk:=fun r8=>[.io 0 (.lst (r8.2.map eI)),.val ((eL (eL eI)) rows),.no,.no,.no,.no,.no,.no,.no,.val (eI y5),.no]) rfl rfl (zIc ss ((40*t7)+1)) (fun _=>by walk_at "fl") (fun _=>rfl) fun r8=>?_
 walk_at "~j h";refine c_a8 _ rfl (oP rfl) ?_;walk_at "~j";refine c_ad (e1:=[.io 0 (.lst (r8.2.map eI)),.val ((eL (eL eI)) rows),.no,.no,.no,.no,.no,.no,.no,.no,.no]) rfl ?_;exact rfl)
def zED:ME:=(zAs zAF none (zAe (mOp gIx (zAc 1) (zAc 6)) (zAe (zAc 7) mNil)))
def zAR (rows:(List (List Int))) (y10:(Int×Int)):Option (List Int):=
 (pIx rows y10.1).bind fun t11=>
 (zAr t11 y10.2).bind fun r12=>
 some r12
theorem zGS (o0:Slot) (rows:(List (List Int))) (o2:Slot) (y10:(Int×Int)):zA7 (zCN (zAz (zAi 6) (zAz (zAi 7) zCA))) mYes zED [6,7] ((eT2 eI eI) y10) [o0,.val ((eL (eL eI)) rows),o2,.no,.no,.no,.no,.no,.no,.no,.no]=(zAR rows y10).map fun z=>(some ((eL eI) z),[o0,.val ((eL (eL eI)) rows),o2,.no,.no,.no,.no,.no,.no,.no,.no]):=c_aa (α:=Unit) (by
 unfold zAR;walk_at "~af F";refine c_t (e2:=[o0,.val ((eL (eL eI)) rows),o2,.no,.no,.no,.val (eI y10.1),.no,.no,.no,.no]) rfl ?_;walk_at "~F";refine c_t (e2:=[o0,.val ((eL (eL eI)) rows),o2,.no,.no,.no,.val (eI y10.1),.val (eI y10.2),.no,.no,.no]) rfl ?_;walk_at "~ag Y ac bb s e d a:1 a:1 b:2";refine c_i (x_ix (e:=(eL eI)) (l:=rows)) fun t11=>?_;walk_at "~e a:1 h";refine c_r (bk:=fun r12=>[o0,.val ((eL (eL eI)) rows),o2,.no,.no,.no,.val (eI y10.1),.val (eI y10.2),.no,.no,.no]) rfl rfl (zBi t11 y10.2) (fun _=>by walk_at "fl") (fun _=>rfl) fun r12=>?_
 walk_at "~L";refine c_ad (e1:=[o0,.val ((eL (eL eI)) rows),o2,.no,.no,.no,.no,.no,.no,.no,.no]) rfl ?_;exact rfl)
def zC8:MS:=(mAft [5,6,7,8] (mSeq (mAsg (mOp gIx (zAc 2) (zAc 5)) (zCN (zAz (zAi 6) (zAz (zAi 7) zCA))))
  (mSeq (mSet 8 (zAs zAF none (zAe (mOp gIx (zAc 1) (zAc 6)) (zAe (zAc 7) mNil))))
  (mSeq (mIfS (mOr (mNot (zAD (zAs (zBt 9) none (zAe (zAc 8) (zAe (mOp gIx (zAc 4) (zAc 5)) mNil))))) (mNot (zAD (zAs (zBt 9) none (zAe (zAc 3) (zAe (zAc 4) mNil)))))) (zAI [1,2,3,4,5,6,7,8,9,10] (mC (.bool false))) zBF)
  (zEO (zDD zBY (some 0) (zAe (zAc 8) mNil)))))))
def zCp (box:(List Int)) (rows:(List (List Int))) (asks:(List (Int×Int))) (first:(List (List Int))) (kept:PyData) (xx:Int) (ss:Unit):Option (Fw (Bool×(List Int)) Unit):=
 (pIx asks xx).bind fun t16=>
 (pIx rows t16.1).bind fun t17=>
 (zAr t17 t16.2).bind fun r18=>
 (some (r18.map eI)).bind fun told19=>
 (pIxD kept xx).bind fun t20=>
 (zBg 9 ((eL eD) told19) t20).bind fun r21=>
 (if (!r21)=true then
  some true
 else
  (zBg 9 ((eL (eL eI)) first) kept).bind fun r22=>
  some (!r22)).bind fun z23=>
 if z23=true then
  some (.rt (false,box))
 else
  (zBU told19).bind fun r24=>
  some (.nx ())
theorem zGU (box:(List Int)) (rows:(List (List Int))) (asks:(List (Int×Int))) (first:(List (List Int))) (kept:PyData) (xx:Int) (ss:Unit):((zAi 5) (eI xx) [.io 0 (.lst (box.map eI)),.val ((eL (eL eI)) rows),.val ((eL (eT2 eI eI)) asks),.val ((eL (eL eI)) first),.val (eD kept),.no,.no,.no,.no,.no,.no]).bind zC8=(zCp box rows asks first kept xx ss).map (outB (fun z:(Bool×(List Int))=>.dat (eB z.1)) (fun z=>[.io 0 (.lst (z.2.map eI)),.no,.no,.no,.no,.no,.no,.no,.no,.no,.no]) (fun ss:Unit=>[.io 0 (.lst (box.map eI)),.val ((eL (eL eI)) rows),.val ((eL (eT2 eI eI)) asks),.val ((eL (eL eI)) first),.val (eD kept),.no,.no,.no,.no,.no,.no])):=c_W (by
 unfold zCp zC8;refine c_t (e2:=[.io 0 (.lst (box.map eI)),.val ((eL (eL eI)) rows),.val ((eL (eT2 eI eI)) asks),.val ((eL (eL eI)) first),.val (eD kept),.val (eI xx),.no,.no,.no,.no,.no]) rfl ?_;walk_at "~J l aC d a:1 a:1 b:2";refine c_i (x_ix (e:=(eT2 eI eI)) (l:=asks)) fun t16=>?_;walk_at "~j aB af F";refine c_t (e2:=[.io 0 (.lst (box.map eI)),.val ((eL (eL eI)) rows),.val ((eL (eT2 eI eI)) asks),.val ((eL (eL eI)) first),.val (eD kept),.val (eI xx),.val (eI t16.1),.no,.no,.no,.no]) rfl ?_
 walk_at "~F";refine c_t (e2:=[.io 0 (.lst (box.map eI)),.val ((eL (eL eI)) rows),.val ((eL (eT2 eI eI)) asks),.val ((eL (eL eI)) first),.val (eD kept),.val (eI xx),.val (eI t16.1),.val (eI t16.2),.no,.no,.no]) rfl ?_;walk_at "~ag k l u s e d a:1 a:1 b:2";refine c_i (x_ix (e:=(eL eI)) (l:=rows)) fun t17=>?_;walk_at "~e a:1 h";refine c_r (bk:=fun r18=>[.io 0 (.lst (box.map eI)),.val ((eL (eL eI)) rows),.val ((eL (eT2 eI eI)) asks),.val ((eL (eL eI)) first),.val (eD kept),.val (eI xx),.val (eI t16.1),.val (eI t16.2),.no,.no,.no]) rfl rfl (zBi t17 t16.2) (fun _=>by walk_at "fl") (fun _=>rfl) fun r18=>?_
 refine c_bd (d':=(r18.map eI).map eD) (by first|rfl|simp only [eL,zJk]) ?_
 refine c_au (τ:=PyData) eD (r18.map eI) (fun told19=>[.io 0 (.lst (box.map eI)),.val ((eL (eL eI)) rows),.val ((eL (eT2 eI eI)) asks),.val ((eL (eL eI)) first),.val (eD kept),.val (eI xx),.val (eI t16.1),.val (eI t16.2),.own (.lst (told19.map eD)),.no,.no]) (fun _=>rfl) fun told19=>?_;walk_at "~k l B ab R o s e v:1 e d a:1 a:1 b:2";refine c_i x_ixD fun t20=>?_;walk_at "~h";refine c_r (bk:=fun r21=>[.io 0 (.lst (box.map eI)),.val ((eL (eL eI)) rows),.val ((eL (eT2 eI eI)) asks),.val ((eL (eL eI)) first),.val (eD kept),.val (eI xx),.val (eI t16.1),.val (eI t16.2),.own (.lst (told19.map eD)),.no,.no]) rfl rfl (zD6 9 ((eL eD) told19) t20) (fun _=>by walk_at "fl") (fun _=>rfl) fun r21=>?_
 walk_at "~n";refine c_w (fun z23=>(z23,[.io 0 (.lst (box.map eI)),.val ((eL (eL eI)) rows),.val ((eL (eT2 eI eI)) asks),.val ((eL (eL eI)) first),.val (eD kept),.val (eI xx),.val (eI t16.1),.val (eI t16.2),.own (.lst (told19.map eD)),.no,.no])) ?_ ?_ fun z23=>?_
 ·exact rfl
 ·refine c_R ?_
  walk_at "~o s e a:1 e a:1 h";refine c_r (bk:=fun r22=>[.io 0 (.lst (box.map eI)),.val ((eL (eL eI)) rows),.val ((eL (eT2 eI eI)) asks),.val ((eL (eL eI)) first),.val (eD kept),.val (eI xx),.val (eI t16.1),.val (eI t16.2),.own (.lst (told19.map eD)),.no,.no]) rfl rfl (zD6 9 ((eL (eL eI)) first) kept) (fun _=>by walk_at "fl") (fun _=>rfl) fun r22=>?_
  walk_at "~n";exact rfl
 refine c_C ?_ ?_
 ·refine c_q ?_
  walk_at "~c";refine c_p (.dat (eB false)) rfl (e2:=[.io 0 (.lst (box.map eI)),.no,.no,.no,.no,.no,.no,.no,.no,.no,.no]) rfl ?_;walk_at "~E ao";exact rfl
 ·refine c_z ?_
  walk_at "~k an aA e v:1 h";refine c_az (bk:=fun r24=>[.io 0 (.lst (box.map eI)),.val ((eL (eL eI)) rows),.val ((eL (eT2 eI eI)) asks),.val ((eL (eL eI)) first),.val (eD kept),.val (eI xx),.val (eI t16.1),.val (eI t16.2),.own (.lst (r24.2.map eD)),.no,.no]) rfl (zGY told19) (fun _=>rfl) fun r24=>?_;refine c_G (e2:=[.io 0 (.lst (box.map eI)),.val ((eL (eL eI)) rows),.val ((eL (eT2 eI eI)) asks),.val ((eL (eL eI)) first),.val (eD kept),.no,.no,.no,.no,.no,.no]) rfl ?_
  exact rfl)
def zEC:ME:=(zAs zBf (some 0) (zAe (zAc 0) (zAe (zAc 10) mNil)))
def zBS (y27:(List Int)) (ss:(List Int)):Option (Bool×(List Int)):=
 (zA3 ss y27).bind fun r28=>
 some (r28.1,r28.2)
theorem zGR (o1:Slot) (o2:Slot) (o3:Slot) (o4:Slot) (y27:(List Int)) (ss:(List Int)):zA7 (zAi 10) mYes zEC [10] ((eL eI) y27) [.io 0 (.lst (ss.map eI)),o1,o2,o3,o4,.no,.no,.no,.no,.no,.no]=(zBS y27 ss).map fun z=>(some (eB z.1),[.io 0 (.lst (z.2.map eI)),o1,o2,o3,o4,.no,.no,.no,.no,.no,.no]):=c_aa (α:=Unit) (by
 unfold zBS;refine c_t (e2:=[.io 0 (.lst (ss.map eI)),o1,o2,o3,o4,.no,.no,.no,.no,.no,.val ((eL eI) y27)]) rfl ?_;walk_at "~Y ac bb s e A:1 e a:1 h";refine c_r (bk:=fun r28=>[.io 0 (.lst (r28.2.map eI)),o1,o2,o3,o4,.no,.no,.no,.no,.no,.val ((eL eI) y27)]) rfl rfl (zFo ss y27) (fun _=>by walk_at "fl") (fun _=>rfl) fun r28=>?_
 walk_at "~j";refine c_ad (e1:=[.io 0 (.lst (r28.2.map eI)),o1,o2,o3,o4,.no,.no,.no,.no,.no,.no]) rfl ?_;exact rfl)
def zFx:MS:=(mSeq (mSet 1 (mFrz (mLst (zAe (mFrz (zAs zCE (some 0) (zAe (zAc 0) mNil))) (zAe (mFrz (zAs zCE (some 0) (zAe (zAc 0) mNil))) mNil)))))
  (mSeq (mSet 2 (mLc (zDd (zAe (mC (.int 6)) mNil)) (zAi 9) mYes zEE [9]))
  (mSeq (mSet 3 (mLc (mItL (zAc 2)) (zCN (zAz (zAi 6) (zAz (zAi 7) zCA))) mYes zED [6,7]))
  (mSeq (mSet 4 (mFrz (zDD (zBG 9) none (zAe (mFrz (zAc 3)) mNil))))
  (mSeq (mBef [5,6,7,8] (mFor (zFz (zAe (mC (.int 5)) (zAe (mUn gNeg (mC (.int 1))) (zAe (mUn gNeg (mC (.int 1))) mNil)))) (zAi 5) zC8))
  (zAI [1,2,3,4,5,6,7,8,9,10] (mCB gAll (zAe (mLc (mItL (zAc 1)) (zAi 10) mYes zEC [10]) mNil))))))))
def zDv:FM:=fmOf 1 11 zFx
theorem zIJ (T:Tx w K mg fd):FnOk P w K mg base CX0 13 (He.ga K "_law_right") (fd 20) ["_law_box_here"] (spF K zDv):=
 zCk T.jAn sc_w_right fun cdv A outer s H E hr=>(show VSs _ _ zFx from (zAg (zAM (i:=1) sc_w_right.nd (zAh (zEA (zAb (zAh (zAj (some 0) (FnOk.mono (zF3 T) (by decide)) hr T.jAL T.jAq.kp (zGf T) (zAb (zAa 0) zAf))) (zAb (zAh (zAj (some 0) (FnOk.mono (zF3 T) (by decide)) hr T.jAL T.jAq.kp (zGf T) (zAb (zAa 0) zAf))) zAf)))))
   (zAg (zH7 (i:=2) (own:=[("_law_turn",9)]) sc_w_right.nd (zDU T.b_range (zAb zAd zAf)) (blkOk_by (own:=[("_law_turn",9)]) (N:=["_law_box_here","_law_rows","_law_asks","_law_first","_law_kept","_law_k","_law_which","_law_amount","_law_told","_law_turn","_law_row"]) (sc:=defScope zBO) (by decide+kernel)) (fun _ _ _ _ _=>(zAo (j:=9) sc_w_right.nd)) (fun _ _ _ _ _=>zCr) (fun _ _ _ _ _=>(zMI (zAb (zAh (zAm op_mod zBR (zAa 9) zAd)) (zAb (zAh (zAj (some 0) (FnOk.mono (zG7 T) (by decide)) hr T.jAN T.jAs.kp (zHu T) (zAb (zAa 0) (zAb (zAm zAW zAX (zAm zBA zBB zAd (zAY ix_seq zAZ (zAY ix_seq zAZ (zAa 1) (zAm op_mod zBR (zAa 9) zAd) (fun _ _=>rfl)) (zE4 un_neg zC2 zAd) (fun _ _=>rfl))) zAd) zAf)))) zAf)))) (by decide) (sw_true rfl rfl rfl (by decide+kernel)))
   (zAg (zH7 (i:=3) (own:=[("_law_which",6),("_law_amount",7)]) sc_w_right.nd (zDM (zAa 2)) (blkOk_by (own:=[("_law_which",6),("_law_amount",7)]) (N:=["_law_box_here","_law_rows","_law_asks","_law_first","_law_kept","_law_k","_law_which","_law_amount","_law_told","_law_turn","_law_row"]) (sc:=defScope zBO) (by decide+kernel)) (fun _ _ _ _ _=>(zDV (zAE (zAo (j:=6) sc_w_right.nd) (zAE (zAo (j:=7) sc_w_right.nd) zCK)) (zAp (zAp zBo)))) (fun _ _ _ _ _=>zCr) (fun _ _ _ _ _=>(zAj none (FnOk.mono (zA4 T) (by decide)) hr T.jAy T.jAd.kp (zA5 T) (zAb (zAY ix_seq zAZ (zAa 1) (zAa 6) (fun _ _=>rfl)) (zAb (zAa 7) zAf)))) (by decide) (sw_true rfl rfl rfl (by decide+kernel)))
   (zAg (zAM (i:=4) sc_w_right.nd (zAh (zEV none (FnOk.mono (zDP T 9) (by decide)) hr T.jAE T.jAj.kp (zDT T) (zAb (zAh (zAa 3)) zAf))))
   (zAg (zC1 (ws:=[5,6,7,8]) (zC0 PassesOwn.never (zIY T.b_range (zAb zAd (zAb (zE4 un_neg zC2 zAd) (zAb (zE4 un_neg zC2 zAd) zAf)))) (zAo (j:=5) sc_w_right.nd) (zBM (ws:=[5,6,7,8]) (zAg (zGM (zAY ix_seq zAZ (zAa 2) (zAa 5) (fun _ _=>rfl)) (zDV (zAE (zAo (j:=6) sc_w_right.nd) (zAE (zAo (j:=7) sc_w_right.nd) zCK)) (zAp (zAp zBo))))
   (zAg (zAM (i:=8) sc_w_right.nd (zAj none (FnOk.mono (zA4 T) (by decide)) hr T.jAy T.jAd.kp (zA5 T) (zAb (zAY ix_seq zAZ (zAa 1) (zAa 6) (fun _ _=>rfl)) (zAb (zAa 7) zAf))))
   (zAg (zBX (vt_w (zE3 (zCZ (zBz (zAj none (FnOk.mono (zC4 T 9) (by decide)) hr T.jAK T.jAp.kp (zDl T) (zAb (zAa 8) (zAb (zAY ix_seq zAZ (zAa 4) (zAa 5) (fun _ _=>rfl)) zAf))))) (zDA (zCZ (zBz (zAj none (FnOk.mono (zC4 T 9) (by decide)) hr T.jAK T.jAp.kp (zDl T) (zAb (zAa 3) (zAb (zAa 4) zAf)))))))) (zAk (zAl zFb)) zAU)
   (zAk (zJ4 (some 0) (FnOk.mono (zGy T) (by decide)) hr T.jAH T.jAm.kp (zFI T) (zAb (zAa 8) zAf)))))))))
   (zAk (zAl (zAH (cr_all rfl) zHq (by rfl) T.b_all (by decide+kernel) (zAb (zGj (own:=[("_law_row",10)]) sc_w_right.nd (zDM (zAa 1)) (blkOk_by (own:=[("_law_row",10)]) (N:=["_law_box_here","_law_rows","_law_asks","_law_first","_law_kept","_law_k","_law_which","_law_amount","_law_told","_law_turn","_law_row"]) (sc:=defScope zBO) (by decide+kernel)) (fun _ _ _ _ _=>(zAo (j:=10) sc_w_right.nd)) (fun _ _ _ _ _=>zCr) (fun _ _ _ _ _=>(zAj (some 0) (FnOk.mono (zEN T) (by decide)) hr T.jAG T.jAl.kp (zER T) (zAb (zAa 0) (zAb (zAa 10) zAf)))) (by decide)) zAf))))))))))
def zDo (box:(List Int)):Option (Bool×(List Int)):=
 (zCH box).bind fun r1=>
 (zCH r1.2).bind fun r2=>
 (some [r1.1,r2.1]).bind fun rows3=>
 (pRng 6).bind fun l4=>
 (gd (l4.length≤100000)).bind fun _=>
 (mapS (zBT rows3) l4 r2.2).bind fun l9=>
 (gd (l9.1.length≤100000)).bind fun _=>
 (mapO (zAR rows3) l9.1).bind fun l13=>
 (zA6 9 ((eL (eL eI)) l13)).bind fun r14=>
 (zHJ 5 (-1) (-1)).bind fun l15=>
 (forR (zCp l9.2 rows3 l9.1 l13 r14) l15 ()).bind fun w26=>w26.on (fun z=>some z) fun s25=>
  (gd (rows3.length≤100000)).bind fun _=>
  (mapS (zBS) rows3 l9.2).bind fun l29=>
  some ((l29.1.all id),l29.2)
theorem zJd (box:(List Int)):zDv [.io 0 (.lst (box.map eI))]=(zDo box).map fun z=>(.dat (eB z.1),[.io 0 (.lst (z.2.map eI))]):=by
 unfold zDv zFx zDo;refine c_D (oR:=fun z:(Bool×(List Int))=>.dat (eB z.1)) (eR:=fun z=>[.io 0 (.lst (z.2.map eI)),.no,.no,.no,.no,.no,.no,.no,.no,.no,.no]) [.io 0 (.lst (box.map eI)),.no,.no,.no,.no,.no,.no,.no,.no,.no,.no] rfl rfl ?_ (fun _=>rfl) (fun _=>by walk_at "ik") (fun _=>rfl)
 walk_at "~l u m ai e m s e A:1 h";refine c_r (bk:=fun r1=>[.io 0 (.lst (r1.2.map eI)),.no,.no,.no,.no,.no,.no,.no,.no,.no,.no]) rfl rfl (zGX box) (fun _=>by walk_at "fl") (fun _=>rfl) fun r1=>?_
 walk_at "~L e m s e A:1 h";refine c_r (bk:=fun r2=>[.io 0 (.lst (r2.2.map eI)),.no,.no,.no,.no,.no,.no,.no,.no,.no,.no]) rfl rfl (zGX r1.2) (fun _=>by walk_at "fl") (fun _=>rfl) fun r2=>?_
 walk_at "~L h";refine c_ah ([r1.1,r2.1].map (eL eI)) rfl (oP rfl) ?_;walk_at "~L";refine c_al (τ:=(List (List Int))) (eL (eL eI)) [r1.1,r2.1] (fun rows3=>[.io 0 (.lst (r2.2.map eI)),.val ((eL (eL eI)) rows3),.no,.no,.no,.no,.no,.no,.no,.no,.no]) (fun _=>rfl) fun rows3=>?_;walk_at "~k l u T aE e c h";refine c_aD rfl fun l4=>?_;refine c_S (xs:=l4) (ec:=eI) (e1:=[.io 0 (.lst (r2.2.map eI)),.val ((eL (eL eI)) rows3),.no,.no,.no,.no,.no,.no,.no,.no,.no]) (by exact rfl) ?_
 refine c_V (zJt (f:=zBT rows3) (ec:=eI) (ed:=(eT2 eI eI)) (E:=fun sE:(List Int)=>([.io 0 (.lst (sE.map eI)),.val ((eL (eL eI)) rows3),.no,.no,.no,.no,.no,.no,.no,.no,.no]:Sl)) (zGT rows3) _ r2.2) fun l9=>?_;refine c_aQ (e2:=[.io 0 (.lst (l9.2.map eI)),.val ((eL (eL eI)) rows3),.own (.lst (l9.1.map (eT2 eI eI))),.no,.no,.no,.no,.no,.no,.no,.no]) rfl ?_;walk_at "~k l u T ar v:1";refine c_aY rfl (e2:=[.io 0 (.lst (l9.2.map eI)),.val ((eL (eL eI)) rows3),.val ((eL (eT2 eI eI)) l9.1),.no,.no,.no,.no,.no,.no,.no,.no]) rfl ?_
 walk_at "~aq";refine c_S (xs:=l9.1) (ec:=(eT2 eI eI)) (e1:=[.io 0 (.lst (l9.2.map eI)),.val ((eL (eL eI)) rows3),.val ((eL (eT2 eI eI)) l9.1),.no,.no,.no,.no,.no,.no,.no,.no]) (by exact rfl) ?_
 refine c_V (zDf (zGS (.io 0 (.lst (l9.2.map eI))) rows3 (.val ((eL (eT2 eI eI)) l9.1))) _) fun l13=>?_;refine c_aQ (e2:=[.io 0 (.lst (l9.2.map eI)),.val ((eL (eL eI)) rows3),.val ((eL (eT2 eI eI)) l9.1),.own (.lst (l13.map (eL eI))),.no,.no,.no,.no,.no,.no,.no]) rfl ?_;walk_at "~k l u m aA e m v:1";refine c_aY rfl (e2:=[.io 0 (.lst (l9.2.map eI)),.val ((eL (eL eI)) rows3),.val ((eL (eT2 eI eI)) l9.1),.val ((eL (eL eI)) l13),.no,.no,.no,.no,.no,.no,.no]) rfl ?_
 walk_at "~h";refine c_az (bk:=fun r14=>[.io 0 (.lst (l9.2.map eI)),.val ((eL (eL eI)) rows3),.val ((eL (eT2 eI eI)) l9.1),.val ((eL (eL eI)) l13),.no,.no,.no,.no,.no,.no,.no]) rfl (zF0 9 ((eL (eL eI)) l13)) (fun _=>rfl) fun r14=>?_;walk_at "~j";refine c_K (e2:=[.io 0 (.lst (l9.2.map eI)),.val ((eL (eL eI)) rows3),.val ((eL (eT2 eI eI)) l9.1),.val ((eL (eL eI)) l13),.val (eD r14),.no,.no,.no,.no,.no,.no]) rfl ?_
 walk_at "~k l";refine c_X (e2:=[.io 0 (.lst (l9.2.map eI)),.val ((eL (eL eI)) rows3),.val ((eL (eT2 eI eI)) l9.1),.val ((eL (eL eI)) l13),.val (eD r14),.no,.no,.no,.no,.no,.no]) rfl ?_;walk_at "~U bf e c e O c N:1";refine c_g zE0 ?_;walk_at "~e O c N:1";refine c_g zE0 ?_;walk_at "~h";refine c_be rfl fun l15=>?_;refine c_ay (E:=fun sE:Unit=>[.io 0 (.lst (l9.2.map eI)),.val ((eL (eL eI)) rows3),.val ((eL (eT2 eI eI)) l9.1),.val ((eL (eL eI)) l13),.val (eD r14),.no,.no,.no,.no,.no,.no]) (oR:=fun z:(Bool×(List Int))=>.dat (eB z.1)) (eR:=fun z=>[.io 0 (.lst (z.2.map eI)),.no,.no,.no,.no,.no,.no,.no,.no,.no,.no]) (zF6 (E:=fun sE:Unit=>[.io 0 (.lst (l9.2.map eI)),.val ((eL (eL eI)) rows3),.val ((eL (eT2 eI eI)) l9.1),.val ((eL (eL eI)) l13),.val (eD r14),.no,.no,.no,.no,.no,.no]) (oR:=fun z:(Bool×(List Int))=>.dat (eB z.1)) (eR:=fun z=>[.io 0 (.lst (z.2.map eI)),.no,.no,.no,.no,.no,.no,.no,.no,.no,.no]) (ec:=eI) (zGU l9.2 rows3 l9.1 l13 r14) _ ()) (fun z=>?_) (fun s25=>?_)
 ·refine c_E ?_
  exact rfl
 ·refine c_k ?_
  walk_at "~q y e T ar a:1 j aq";refine c_S (xs:=rows3) (ec:=(eL eI)) (e1:=[.io 0 (.lst (l9.2.map eI)),.val ((eL (eL eI)) rows3),.val ((eL (eT2 eI eI)) l9.1),.val ((eL (eL eI)) l13),.val (eD r14),.no,.no,.no,.no,.no,.no]) (by exact rfl) ?_
  refine c_V (zJt (f:=zBS) (ec:=(eL eI)) (ed:=eB) (E:=fun sE:(List Int)=>([.io 0 (.lst (sE.map eI)),.val ((eL (eL eI)) rows3),.val ((eL (eT2 eI eI)) l9.1),.val ((eL (eL eI)) l13),.val (eD r14),.no,.no,.no,.no,.no,.no]:Sl)) (zGR (.val ((eL (eL eI)) rows3)) (.val ((eL (eT2 eI eI)) l9.1)) (.val ((eL (eL eI)) l13)) (.val (eD r14))) _ l9.2) fun l29=>?_;walk_at "~h";refine c_x _ rfl ?_;refine c_g (zIT (l:=l29.1)) ?_
  refine c_p (.dat (eB (l29.1.all id))) rfl (e2:=[.io 0 (.lst (l29.2.map eI)),.no,.no,.no,.no,.no,.no,.no,.no,.no,.no]) rfl ?_;exact rfl
def zIf:ME:=(zHd zDv (zAs zEX none (zAe (zAc 1) (zAe (zAc 2) mNil))))
def zEZ (cells:(List Int)) (y3:Int):Option Bool:=
 (zFN cells y3).bind fun r4=>
 (zDo r4).bind fun t5=>
 some t5.1
theorem zKa (o0:Slot) (cells:(List Int)) (y3:Int):zA7 (zAi 2) mYes zIf [2] (eI y3) [o0,.val ((eL eI) cells),.no]=(zEZ cells y3).map fun z=>(some (eB z),[o0,.val ((eL eI) cells),.no]):=c_aa (α:=Unit) (by
 unfold zEZ;refine c_t (e2:=[o0,.val ((eL eI) cells),.val (eI y3)]) rfl ?_;walk_at "~Y ac bb bC s e a:1 e a:1 h";refine c_r (bk:=fun r4=>[o0,.val ((eL eI) cells),.val (eI y3)]) rfl rfl (zLG cells y3) (fun _=>by walk_at "fl") (fun _=>rfl) fun r4=>?_
 refine c_bB (zJd r4) fun t5=>?_;walk_at "~j";refine c_ad (e1:=[o0,.val ((eL eI) cells),.no]) rfl ?_;exact rfl)
def zLO:MS:=(mSeq (mSet 1 (mFrz (zAs zCU none (zAe (zAc 0) (zAe (mC (.int 6)) mNil)))))
  (zAI [0,1,2] (mCB gAll (zAe (mLc (zDd (zAe (mCB (zKE fun i j=>if j>i then j else i) (zAe (mC (.int 1)) (zAe (mCB gLen (zAe (zAc 1) mNil)) mNil))) mNil)) (zAi 2) mYes zIf [2]) mNil))))
def zIj:FM:=fmOf 1 3 zLO
theorem zMY (T:Tx w K mg fd):FnOk P w K mg base CX0 14 (He.ga K "law") (fd 21) ["_law_script"] (spF K zIj):=
 zCk T.jAc sc_law fun cdv A outer s H E hr=>(show VSs _ _ zLO from (zAg (zAM (i:=1) sc_law.nd (zAh (zAj none (FnOk.mono (zHL T) (by decide)) hr T.jAF T.jAk.kp (zH1 T) (zAb (zAa 0) (zAb zAd zAf)))))
   (zAk (zAl (zAH (cr_all rfl) zHq (by rfl) T.b_all (by decide+kernel) (zAb (zGj (own:=[("_law_k",2)]) sc_law.nd (zDU T.b_range (zAb (zAH (call_max2 rfl) (zMe (f:=fun i j=>if j>i then j else i)) (by rfl) T.b_max (by decide+kernel) (zAb zAd (zAb (zAH call_len zEK (by rfl) T.b_len PySem.boot_len (zAb (zAa 1) zAf)) zAf))) zAf)) (blkOk_by (own:=[("_law_k",2)]) (N:=["_law_script","_law_cells","_law_k"]) (sc:=defScope zIx) (by decide+kernel)) (fun _ _ _ _ _=>(zAo (j:=2) sc_law.nd)) (fun _ _ _ _ _=>zCr) (fun _ _ _ _ _=>(zJ7 (FnOk.mono (zIJ T) (by decide)) hr T.jAI T.jAn.kp (zIP T) (zAj none (FnOk.mono (zKl T) (by decide)) hr T.jAD T.jAi.kp (zKM T) (zAb (zAa 1) (zAb (zAa 2) zAf))))) (by decide)) zAf))))))
def zJY (script:List Int):Option Bool:=
 (zCI script 6).bind fun r1=>
 (pRng (maxI 1 (r1.length:Int))).bind fun l2=>
 (gd (l2.length≤100000)).bind fun _=>
 (mapO (zEZ r1) l2).bind fun l6=>
 some (l6.all id)
theorem q_law (script:List Int):zIj [.scr script]=(zJY script).map fun z=>(.dat (eB z),[.no]):=by
 unfold zIj zLO zJY;refine c_D (oR:=fun z:Bool=>.dat (eB z)) (eR:=fun z=>[.no,.no,.no]) [.scr script,.no,.no] rfl rfl ?_ (fun _=>rfl) (fun _=>by walk_at "ik") (fun _=>rfl)
 walk_at "~l u m s e bs:1 e c h";refine c_r (bk:=fun r1=>[.scr script,.no,.no]) rfl rfl (zIF script 6) (fun _=>by walk_at "fl") (fun _=>rfl) fun r1=>?_
 walk_at "~L";refine c_K (e2:=[.scr script,.val ((eL eI) r1),.no]) rfl ?_;walk_at "~k q y e T aE e y e c e y e a:1 h";refine c_x _ rfl ?_;refine c_g (zGK (e:=eI) (l:=r1)) ?_;walk_at "~h";refine c_x _ rfl ?_;refine c_g zMt ?_;walk_at "~h";refine c_aD rfl fun l2=>?_;refine c_S (xs:=l2) (ec:=eI) (e1:=[.scr script,.val ((eL eI) r1),.no]) (by exact rfl) ?_
 refine c_V (zDf (zKa (.scr script) r1) _) fun l6=>?_;walk_at "~h";refine c_x _ rfl ?_;refine c_g (zIT (l:=l6)) ?_;refine c_p (.dat (eB (l6.all id))) rfl (e2:=[.no,.no,.no]) rfl ?_;exact rfl
end
end Lw
namespace Lw
open PySem L2 Cm
theorem sq_le {c:Int} (h0:0≤c) (h1:c≤2147483648):0≤c*c∧c*c≤2147483648*2147483648:=⟨Int.mul_nonneg h0 h0,Int.mul_le_mul h1 h1 h0 (by omega)⟩
theorem zEo {b:List Int} {n m:Int} (h:Bok b n) (hn:n<2147483648) (hm:0<m∧m<1073741824):Wp (zBL b m) fun r=>(0≤r.1∧r.1<m)∧Bok r.2 (n+1):=by
 obtain ⟨a,v,c,rfl,h1,h2,h3⟩:=h
 unfold zBL;refine zAx (zCT (z:=a) (by omega) rfl) ?_
 refine zKZ (fun ha=>?_) (fun ha=>?_)
 ·refine zAx (zCT (z:=a) (by omega) rfl) ?_
  refine zAx (zD9 hm.1) ?_;refine zAx (zCT (z:=a) (by omega) rfl) ?_
  refine zAx (zDH hm) ?_;refine zAx (zI8 (by omega) (by simp)) ?_
  exact zAS ⟨⟨Int.emod_nonneg _ (by omega),Int.emod_lt_of_pos _ hm.1⟩,a / m,v,c,rfl,Int.ediv_nonneg h1 (by omega),h2,by omega⟩
 ·have hs:=sq_le (c:=c+1) (by omega) (by omega)
  refine zAx (zCT (z:=c) (by omega) rfl) ?_
  refine zAx (zI8 (by omega) (by simp)) ?_
  refine zAx (zCT (z:=c+1) (by omega) rfl) ?_
  refine zAx (zCT (z:=c+1) (by omega) rfl) ?_
  refine zAx (zC6 (by omega)) ?_
  refine zEz ?_;refine zAx (zCT (z:=v) (by omega) rfl) ?_
  refine zAx (zCT (z:=c+1) (by omega) rfl) ?_
  generalize (c+1)*(c+1)=q at hs ⊢
  refine zAx (zC6 (.inr (by omega))) ?_
  refine zEz ?_;refine zAx (zC6 (.inr (by omega))) ?_
  refine zAx (zCT (z:=c+1) (by omega) rfl) ?_
  refine zEz ?_;refine zAx (zC6 (.inr (by omega))) ?_
  refine zAx (zD9 hm.1) ?_;exact zAS ⟨⟨Int.emod_nonneg _ (by omega),Int.emod_lt_of_pos _ hm.1⟩,a,v,c+1,rfl,h1,by omega,by omega⟩
theorem zNt (l:List Int) (k:Int) (hk:0≤k):Wp (zFN l k) fun b=>Bok b 0:=by
 unfold zFN;refine zAw (R:=fun _=>True) ?_ fun z _=>?_
 ·refine zKZ (fun h=>?_) (fun h=>?_)
  ·exact zAw (zLX hk h) fun z _=>zAS trivial
  ·exact zAS trivial
 ·have ha:=zMk z
  refine zAx (zC6 (.inr (by split<;>omega))) ?_
  refine zAS ⟨_,_,_,rfl,?_,by omega,by omega⟩
  split
  ·omega
  ·simp
theorem zJD (ns:List Int) (h63:ns.length≤63) (k:Nat) (hk:0<k∧k<1000):Wp (zCI ns (k:Int)) fun cs=>cs.length≤k:=by
 unfold zCI;refine zEz ?_;rw [zHY];refine zAw (zHA (I:=fun _ s=>s.length=(ns.take k).length) rfl ?_) fun s hs=>zAS ?_
 ·intro j x s hx hs
  obtain ⟨h1,h2⟩:=zHi hx
  rw [Nat.zero_add] at h1
  have hj:=(oE.mp h2).1
  have hl:(cutL ns (some (k:Int)) (some 63)).length≤ns.length:=zIu _ _ _
  have hfull:(ns.take k).length=k:=by
   rw [List.length_take];by_cases hc:k≤ns.length
   ·omega
   ·exfalso
    have:cutL ns (some (k:Int)) (some 63)=[]:=by
     unfold cutL;rw [HT.sIx_nat,Nat.min_eq_right (by omega),List.drop_of_length_le (Nat.le_refl _),List.take_nil]
    rw [this] at hj
    simp at hj
  unfold zB0;have m1:=Int.emod_nonneg x.1 (b:=(k:Int)) (by omega)
  have m2:=Int.emod_lt_of_pos x.1 (b:=(k:Int)) (by omega)
  refine zAx (zD9 (by omega)) ?_
  refine zAw (zLX m1 (by omega)) fun t3 _=>?_
  refine zAx (zC6 (.inr (by omega))) ?_
  refine zAx (zD9 (by omega)) ?_
  refine zAx (zI8 m1 (by omega)) ?_
  exact zAS (by rw [oK];exact hs)
 ·rw [hs,List.length_take];omega
inductive Rw:List Int→Int→Nat→Prop
 |one {s:Int} (h1:1≤s) (h2:s≤100):Rw [s] s 1
 |more {l:List Int} {s t:Int} {n:Nat}:Rw l s n→2≤t→t≤12→Rw (l++[s*t]) (s*t) (n+1)
theorem Rw.len {l:List Int} {s:Int} {n:Nat} (h:Rw l s n):l.length=n:=by
 induction h with
 |one _ _=>rfl
 |more _ _ _ ih=>rw [oI,ih];rfl
theorem Rw.pos {l:List Int} {s:Int} {n:Nat} (h:Rw l s n):0<n:=by cases h<;>omega
theorem Rw.last {l:List Int} {s:Int} {n:Nat} (h:Rw l s n):∃k,l=k++[s]:=by
 cases h with
 |one _ _=>exact ⟨[],rfl⟩
 |more _ _ _=>exact ⟨_,rfl⟩
theorem Rw.big {l:List Int} {s:Int} {n:Nat} (h:Rw l s n):1≤s∧s≤100*12 ^ (n - 1):=by
 induction h with
 |one h1 h2=>exact ⟨h1,h2⟩
 |@more l s t n h0 h1 h2 ih=>
  have hp:=h0.pos
  refine ⟨?_,?_⟩
  ·have:1*1≤s*t:=Int.mul_le_mul ih.1 (by omega) (by omega) (by omega)
   omega
  ·have h3:s*t≤(100*12 ^ (n - 1))*12:=Int.mul_le_mul ih.2 h2 (by omega) (by omega)
   have h4:(12:Int) ^ (n+1 - 1)=12 ^ (n - 1)*12:=by
    rw [←Int.pow_succ]
    congr 1
    omega
   rw [h4,←Int.mul_assoc];exact h3
theorem Rw.bound {l:List Int} {s:Int} {n:Nat} (h:Rw l s n) (hn:n≤5):s≤2073600:=by
 have h1:=h.big.2
 have h2:=h.pos
 rcases (show n=1∨n=2∨n=3∨n=4∨n=5 by omega) with rfl|rfl|rfl|rfl|rfl<;>simp at h1<;>omega
theorem Rw.mem {l:List Int} {s:Int} {n:Nat} (h:Rw l s n):∀x∈l,1≤x∧x≤s:=by
 induction h with
 |one h1 h2=>
  intro x hx
  rw [oX] at hx
  omega
 |@more l s t n h0 h1 h2 ih=>
  intro x hx
  have hb:=h0.big.1
  have h3:s*1≤s*t:=Int.mul_le_mul_of_nonneg_left (by omega) (by omega)
  rcases oV.mp hx with hx|hx
  ·have:=ih x hx
   omega
  ·rw [oX] at hx
   omega
theorem Rw.step {l:List Int} {s:Int} {n:Nat} (h:Rw l s n):∀(i:Nat) x y,l[i]?=some x→l[i+1]?=some y→x≤y∧∃t,2≤t∧t≤12∧y=x*t:=by
 induction h with
 |one h1 h2=>
  intro i x y h3 h4
  simp at h4
 |@more l s t n h0 h1 h2 ih=>
  intro i x y h3 h4
  by_cases hi:i+1<l.length
  ·rw [oL hi] at h4
   rw [oL (by omega)] at h3
   exact ih i x y h3 h4
  ·have hi2:i+1=l.length:=by
    have:=(oE.mp h4).1
    rw [oI,oQ] at this
    omega
   rw [oN (by omega),hi2,Nat.sub_self] at h4
   simp at h4
   rw [oL (by omega)] at h3
   obtain ⟨k,rfl⟩:=h0.last
   rw [oI,oQ] at hi2
   rw [oN (by omega),show i - k.length=0 by omega] at h3
   simp at h3
   subst h3 h4;have hb:=h0.big.1
   have h5:s*1≤s*t:=Int.mul_le_mul_of_nonneg_left (by omega) (by omega)
   exact ⟨by omega,t,h1,h2,rfl⟩
theorem zCX (a b:Str):(a++b).length=a.length+b.length:=by
 show (a.cps++b.cps).size=a.cps.size+b.cps.size
 simp
theorem zGH:("":Str).length=0:=by decide+kernel
theorem zGI:("":Str)=⟨#[]⟩:=by decide+kernel
theorem zJH (x:Str):("":Str)++x=x:=by
 rw [zGI];show (⟨#[]++x.cps⟩:Str)=x
 simp
theorem zJV (x:Str):x++("":Str)=x:=by
 rw [zGI];show (⟨x.cps++#[]⟩:Str)=x
 simp
theorem zLT {x:Str} (h:1≤x.length):¬x="":=fun e=>by
 rw [e,zGH] at h
 omega
theorem zH0 {a b:Str} (h:a.length+b.length≤100000):zD7 a b=some (a++b):=if_pos h
structure Lay (d:PyData) (k:Nat):Prop where
 can:PyData.canLay0 d=true
 dep:PyData.depth d≤k
theorem Lay.mono {d:PyData} {k l:Nat} (h:Lay d k) (e:k≤l):Lay d l:=⟨h.can,Nat.le_trans h.dep e⟩
theorem zIh {l:List PyData}:pIsi "list" (.list l)=some true:=zEh
theorem zM5 {l:List PyData}:pIsi "tuple" (.list l)=some false:=zDF
theorem zLc {l:List PyData}:pIsi "list" (.tuple l)=some false:=zDE
theorem zLb {l:List PyData}:pIsi "tuple" (.tuple l)=some true:=zDg
theorem zLg {l:List PyData}:zCj "list" "tuple" (.list l)=some true:=by
 unfold zCj;show (kitB "list" "list").bind _=_
 rw [zEh,oA];show (kitB "list" "tuple").map _=_
 rw [zDF];rfl
theorem zNf {l:List PyData}:zCj "list" "tuple" (.tuple l)=some true:=by
 unfold zCj;show (kitB "tuple" "list").bind _=_
 rw [zDE,oA];show (kitB "tuple" "tuple").map _=_
 rw [zDg];rfl
theorem zLh {i:Int}:zCj "list" "tuple" (.int i)=some false:=by
 unfold zCj;show (kitB "int" "list").bind _=_
 rw [zEH,oA];show (kitB "int" "tuple").map _=_
 rw [zEi];rfl
theorem zNg {i:Str}:zCj "list" "tuple" (.str i)=some false:=by
 unfold zCj;show (kitB "str" "list").bind _=_
 rw [zEG,oA];show (kitB "str" "tuple").map _=_
 rw [zEg];rfl
theorem zNi {i:Bool}:zCj "list" "tuple" (.bool i)=some false:=by
 unfold zCj;show (kitB "bool" "list").bind _=_
 rw [zEj,oA];show (kitB "bool" "tuple").map _=_
 rw [zDG];rfl
theorem zNh:zCj "list" "tuple" .none=some false:=by
 unfold zCj;show (kitB "NoneType" "list").bind _=_
 rw [zCC,oA];show (kitB "NoneType" "tuple").map _=_
 rw [zCm];rfl
theorem zLf {i:Int}:pIsi "bool" (.int i)=some false:=zHf
theorem zM9 {i:Int}:pIsi "str" (.int i)=some false:=zHS
theorem zLe {i:Int}:pIsi "int" (.int i)=some true:=zHT
theorem zNd {i:Str}:pIsi "bool" (.str i)=some false:=zHe
theorem zM8 {i:Str}:pIsi "str" (.str i)=some true:=zHR
theorem zNe {i:Bool}:pIsi "bool" (.bool i)=some true:=zGD
inductive Sm:Nat→PyData→Prop
 |non:Sm 0 .none
 |int (i:Int):Sm 0 (.int i)
 |str (x:Str):Sm 0 (.str x)
 |bool (b:Bool):Sm 0 (.bool b)
 |lst {k:Nat} {ds:List PyData}:ds.length≤100000→(∀d∈ds,Sm k d)→Sm (k+1) (.list ds)
 |tup {k:Nat} {ds:List PyData}:ds.length≤100000→(∀d∈ds,Sm k d)→Sm (k+1) (.tuple ds)
 |up {k:Nat} {d:PyData}:Sm k d→Sm (k+1) d
theorem zDZ {k:Nat} {d:PyData} (h:Sm k d):∀n,k<n→zBg n d d=some true:=by
 have hz:∀(n:Nat) (ds:List PyData),(∀d∈ds,zBg n d d=some true)→∀(f:PyData×PyData→Option Bool),(∀x,f x=(zBg n x.1 x.2).bind fun r=>some r)→mapO f (ds.zip ds)=some ((ds.zip ds).map fun _=>true):=fun n ds hd f hf=>by
  refine zDQ fun x hx=>?_;have h1:x.1=x.2∧x.1∈ds:=by
   obtain ⟨i,hi,rfl⟩:=List.getElem_of_mem hx
   rw [List.getElem_zip];exact ⟨rfl,List.getElem_mem _⟩
  rw [hf,←h1.1,hd _ h1.2];rfl
 have hall:∀l:List (PyData×PyData),(l.map fun _=>true).all id=true:=fun l=>zDn fun b hb=>by
  obtain ⟨_,_,rfl⟩:=oW.mp hb
  rfl
 induction h with
 |non=>
  intro n hn
  obtain ⟨m,rfl⟩:∃m,n=m+1:=⟨n - 1,by omega⟩
  show zAB _ _ _=_
  unfold zAB;rw [zNh];rfl
 |int i=>
  intro n hn
  obtain ⟨m,rfl⟩:∃m,n=m+1:=⟨n - 1,by omega⟩
  show zAB _ _ _=_
  unfold zAB
  have:pEqD false (.int i) (.int i)=some true:=by simp [pEqD,zGn,PyData.eqv]
  simp [zLh,pIsN,zDh,zLf,zM9,zLe,this]
 |str i=>
  intro n hn
  obtain ⟨m,rfl⟩:∃m,n=m+1:=⟨n - 1,by omega⟩
  show zAB _ _ _=_
  unfold zAB
  have:pEqD false (.str i) (.str i)=some true:=by simp [pEqD,zGn,PyData.eqv]
  simp [zNg,pIsN,zDh,zNd,zM8,this]
 |bool i=>
  intro n hn
  obtain ⟨m,rfl⟩:∃m,n=m+1:=⟨n - 1,by omega⟩
  show zAB _ _ _=_
  unfold zAB
  have:pEqD false (.bool i) (.bool i)=some true:=by simp [pEqD,zGn,PyData.eqv]
  simp [zNi,pIsN,zDh,zNe,this]
 |@lst k ds hl hd ih=>
  intro n hn
  obtain ⟨m,rfl⟩:∃m,n=m+1:=⟨n - 1,by omega⟩
  have hm:=hz m ds (fun d h=>ih d h m (by omega)) (zCi (zBg m)) fun x=>rfl
  show zAB _ _ _=_
  unfold zAB;have hzl:(ds.zip ds).length≤100000:=by rw [List.length_zip];omega
  simp only [zLg,zIh,zM5,oA,if_true,zII,zGx,zFE hzl,hm,hall]
  simp
 |@tup k ds hl hd ih=>
  intro n hn
  obtain ⟨m,rfl⟩:∃m,n=m+1:=⟨n - 1,by omega⟩
  have hm:=hz m ds (fun d h=>ih d h m (by omega)) (zCi (zBg m)) fun x=>rfl
  show zAB _ _ _=_
  unfold zAB;have hzl:(ds.zip ds).length≤100000:=by rw [List.length_zip];omega
  simp only [zNf,zLc,zLb,oA,if_true,zII,zGx,zFE hzl,hm,hall]
  simp
 |up _ ih=>intro n hn;exact ih n (by omega)
theorem zNb:pIsi "list" .none=some false:=zCC
theorem zM4:pIsi "tuple" .none=some false:=zCm
theorem zNc {b:Bool}:pIsi "list" (.bool b)=some false:=zEj
theorem zM7 {b:Bool}:pIsi "tuple" (.bool b)=some false:=zDG
theorem zLd {i:Int}:pIsi "list" (.int i)=some false:=zEH
theorem zM6 {i:Int}:pIsi "tuple" (.int i)=some false:=zEi
theorem zNa {x:Str}:pIsi "list" (.str x)=some false:=zEG
theorem zM3 {x:Str}:pIsi "tuple" (.str x)=some false:=zEg
theorem zJL {k:Nat} {d:PyData} (h:Sm k d):∀n,k<n→zA6 n d=some d:=by
 have hz:∀(n:Nat) (ds:List PyData),(∀d∈ds,zA6 n d=some d)→∀(f:PyData→Option PyData),(∀x,f x=(zA6 n x).bind fun r=>some r)→mapO f ds=some ds:=fun n ds hd f hf=>by
  have:=zDQ (f:=f) (g:=fun d=>d) (xs:=ds) fun x hx=>by rw [hf,hd x hx];rfl
  rwa [List.map_id'] at this
 induction h with
 |non=>intro n hn;obtain ⟨m,rfl⟩:∃m,n=m+1:=⟨n - 1,by omega⟩;show zAn _ _=_;unfold zAn;simp [zNb,zM4]
 |int i=>intro n hn;obtain ⟨m,rfl⟩:∃m,n=m+1:=⟨n - 1,by omega⟩;show zAn _ _=_;unfold zAn;simp [zLd,zM6]
 |str i=>intro n hn;obtain ⟨m,rfl⟩:∃m,n=m+1:=⟨n - 1,by omega⟩;show zAn _ _=_;unfold zAn;simp [zNa,zM3]
 |bool i=>intro n hn;obtain ⟨m,rfl⟩:∃m,n=m+1:=⟨n - 1,by omega⟩;show zAn _ _=_;unfold zAn;simp [zNc,zM7]
 |@lst k ds hl hd ih=>
  intro n hn
  obtain ⟨m,rfl⟩:∃m,n=m+1:=⟨n - 1,by omega⟩
  show zAn _ _=_
  unfold zAn;rw [zIh,oA,if_pos rfl,show pItD (.list ds)=some ds from rfl,oA,zFE hl,oA,hz m ds (fun d h=>ih d h m (by omega)) (zB2 (zA6 m)) fun x=>rfl,oA]
  show some (PyData.list (ds.map eD))=_
  rw [zJk]
 |@tup k ds hl hd ih=>
  intro n hn
  obtain ⟨m,rfl⟩:∃m,n=m+1:=⟨n - 1,by omega⟩
  show zAn _ _=_
  unfold zAn;rw [zLc,oA,if_neg (by decide),zLb,oA,if_pos rfl,show pItD (.tuple ds)=some ds from rfl,oA,zFE hl,oA,hz m ds (fun d h=>ih d h m (by omega)) (zB1 (zA6 m)) fun x=>rfl,oA]
  show some (PyData.tuple (ds.map eD))=_
  rw [zJk]
 |up _ ih=>intro n hn;exact ih n (by omega)
def mulB (p:Int×Int):Bool:=decide (p.2∈(zDC 2 13).map fun k=>p.1*k)
theorem zFX {i j x:Int}:x∈zDC i j ↔ i≤x∧x<j:=by
 unfold zDC;rw [oW]
 constructor
 ·rintro ⟨k,hk,rfl⟩
  rw [List.mem_range] at hk
  omega
 ·rintro ⟨h1,h2⟩
  exact ⟨(x - i).toNat,by rw [List.mem_range];omega,by omega⟩
theorem zHN {x y:Int} (h:0<x):(y % x=0∧2≤y / x∧y / x≤12) ↔ mulB (x,y)=true:=by
 unfold mulB;simp only [decide_eq_true_eq,oW,zFX]
 constructor
 ·rintro ⟨h1,h2,h3⟩
  refine ⟨y / x,by omega,?_⟩
  have:=Int.mul_ediv_add_emod y x
  omega
 ·rintro ⟨k,hk,rfl⟩
  rw [Int.mul_ediv_cancel_left k (by omega),Int.mul_emod_right]
  omega
theorem zLN {x y:Int} (h:0<x):(decide (y % x=0)&&(decide (2≤y / x)&&decide (y / x≤12)))=mulB (x,y):=by
 rw [Bool.eq_iff_iff,←zHN h];simp only [oS,decide_eq_true_eq]
theorem zKq {x y:Int} (h:0<x) (m:mulB (x,y)=true):0<y∧y≤x*12:=by
 unfold mulB at m;simp only [decide_eq_true_eq,oW,zFX] at m
 obtain ⟨k,hk,rfl⟩:=m
 constructor
 ·exact Int.mul_pos h (by omega)
 ·exact Int.mul_le_mul_of_nonneg_left (by omega) (by omega)
theorem zJ2 (x:Int):zBb x=some true:=by
 unfold zBb;rw [show pIsi "int" (eI x)=some true from zLe,show pIsi "bool" (eI x)=some false from zLf];rfl
theorem zNn {x y:Int} (h:0<x) (hb:x<1073741824):zBd x y=some (mulB (x,y)):=by
 unfold zBd;rw [zD9 h,oA,←zLN h];by_cases hc:y % x=0
 ·rw [decide_eq_true hc,if_pos rfl,zDH ⟨h,hb⟩]
  rfl
 ·rw [decide_eq_false hc,if_neg (by simp)]
  rfl
theorem zJr:∀(l:List Int) (x:Int) (j:Nat),0<x→x≤100*12 ^ j→l.length+j≤4→forR zAL ((x::l).zip l) ()=some (if (((x::l).zip l).all mulB)=true then .nx () else .rt false)
 |[],x,j,h,hb,hl=>rfl
 |y::l,x,j,h,hb,hl=>by
  have hx:x<1073741824:=by
   have:j≤3:=by simp at hl;omega
   rcases (show j=0∨j=1∨j=2∨j=3 by omega) with rfl|rfl|rfl|rfl<;>simp at hb<;>omega
  have e:zAL (x,y) ()=some (if mulB (x,y)=true then .nx () else .rt false):=by
   unfold zAL;rw [zNn h hx,oA];cases mulB (x,y)<;>rfl
  rw [List.zip_cons_cons,List.all_cons];show (zAL (x,y) ()).bind _=_
  rw [e,oA];cases hm:mulB (x,y) with
  |false=>rfl
  |true=>
   obtain ⟨g1,g2⟩:=zKq h hm
   have:=zJr l y (j+1) g1 (by rw [Int.pow_succ];omega) (by simp at hl;omega)
   show forR zAL ((y::l).zip l) ()=_
   rw [this,Bool.true_and]
def sizB (l:List Int):Bool:=(decide (1≤(l.length:Int))&&decide ((l.length:Int)≤5))&&((match l with
 |x::_=>decide (1≤x)&&decide (x≤100)
 |[]=>false)&&(l.zip (l.drop 1)).all mulB)
theorem zNj (l:List Int) (hl:l.length≤1000):zBl l=some (sizB l):=by
 unfold zBl sizB;rw [show pIsi "list" ((eL eI) l)=some true from zIh];have hm:mapO zBy l=some (l.map fun _=>true):=zDQ fun x hx=>by
  unfold zBy;rw [zJ2];rfl
 have ha:(l.map fun _=>true).all id=true:=zDn fun b hb=>by
  obtain ⟨_,_,rfl⟩:=oW.mp hb
  rfl
 simp only [oA,Bool.not_true,Bool.false_eq_true,if_false]
 cases hc:(decide (1≤(l.length:Int))&&decide ((l.length:Int)≤5)) with
 |false=>simp
 |true=>
  simp only [Bool.not_true,Bool.false_eq_true,if_false,zFE (show l.length≤100000 by omega),hm,oA,ha]
  simp only [oS,decide_eq_true_eq] at hc
  match l,hc with
  |x::l,hc=>
   rw [show pIx (x::l) 0=some x from zLW,oA];simp only [oA,Bool.true_and]
   cases hx:(decide (1≤x)&&decide (x≤100)) with
   |false=>simp
   |true=>
    have hcut:cutL (x::l) (some 1) none=l:=zHo (x::l) 1
    simp only [oS,decide_eq_true_eq] at hx
    simp only [Bool.not_true,Bool.false_eq_true,if_false,hcut,List.drop_succ_cons,List.drop_zero,Bool.true_and]
    rw [zJr l x 0 (by omega) (by omega) (by simp at hc;omega),oA]
    cases ((x::l).zip l).all mulB<;>rfl
theorem Rw.head {l:List Int} {s:Int} {k:Nat} (hR:Rw l s k):∃s0,l[0]?=some s0∧1≤s0∧s0≤100∧∃t,s=s0*t:=by
 induction hR with
 |@one s h1 h2=>exact ⟨s,rfl,h1,h2,1,by omega⟩
 |@more l s t n h0 h1 h2 ih=>
  obtain ⟨s0,e1,e2,e3,u,e4⟩:=ih
  have hp:=h0.pos
  have hl:=h0.len
  refine ⟨s0,?_,e2,e3,u*t,by rw [e4,Int.mul_assoc]⟩
  rw [oL (by omega)]
  exact e1
theorem zIa {b:List Int} {n:Int} (h:Bok b n) (hn:n+20<2147483648):Wp (zCH b) fun r=>(∃s k,Rw r.1 s k∧k≤5)∧Bok r.2 (n+12):=by
 unfold zCH;refine zAw (zEo h (by omega) (m:=3) (by omega)) fun r1 h1=>?_
 refine zAw (zJv (by omega) (by simp;omega)) fun t2 h2=>?_
 simp at h2
 refine zAw (zEo h1.2 (by omega) (m:=t2) (by omega)) fun r3 h3=>?_
 refine zEz ?_;refine zAw (zEo h3.2 (by omega) (m:=5) (by omega)) fun r5 h5=>?_
 refine zAx (zIb (by omega)) ?_
 refine zAw (zHA (I:=fun j s=>(∃z k,Rw s.2 z k∧k≤1+j)∧Bok s.1 (n+3+2*(j:Int))) ?_ ?_) fun s hs=>zAS ?_
 ·exact ⟨⟨_,_,.one (by omega) (by omega),by omega⟩,h5.2.mono (by omega)⟩
 ·rintro j x s hx ⟨⟨z,k,hR,hk⟩,hB⟩
  obtain ⟨hx1,hx2⟩:=zIA hx
  have hz:=hR.bound (by omega)
  have hz1:=hR.big.1
  obtain ⟨l0,hl0⟩:=hR.last
  have hl1:pIx s.2 (-1)=some z:=by rw [hl0];exact zFC
  unfold zCo;refine zAx hl1 ?_;refine zAw (zEo hB (by omega) (m:=11) (by omega)) fun r7 h7=>?_
  refine zAw (zEo h7.2 (by omega) (m:=4) (by omega)) fun r8 h8=>?_
  refine zAw (zJv (by omega) (by simp;omega)) fun t9 h9=>?_
  simp at h9
  refine zAx (zC6 (by omega)) ?_
  refine zAx (zLm (by have:=hR.len;omega)) ?_
  exact zAS ⟨⟨_,_,.more hR (by omega) (by omega),by omega⟩,h8.2.mono (by omega)⟩
 ·rw [zBD] at hs
  obtain ⟨⟨z,k,hR,hk⟩,hB⟩:=hs
  exact ⟨⟨z,k,hR,by omega⟩,hB.mono (by omega)⟩
def G:List Int→Int→List Int
 |[],_=>[]
 |z::zs,L=>List.replicate (L / z).toNat z++G zs (L % z)
def Lo (s0 a:Int):Int:=a+(-a) % s0
theorem zFO {s0 a:Int} (h:0<s0):a≤Lo s0 a∧Lo s0 a<a+s0∧Lo s0 a % s0=0∧(a+s0 - 1) / s0=Lo s0 a / s0:=by
 have h1:=Int.emod_nonneg (-a) (show s0≠0 by omega)
 have h2:=Int.emod_lt_of_pos (-a) h
 have h3:=Int.mul_ediv_add_emod (-a) s0
 have h4:Lo s0 a=s0*(-((-a) / s0)):=by
  unfold Lo;rw [Int.mul_neg];omega
 refine ⟨by unfold Lo;omega,by unfold Lo;omega,by rw [h4,Int.mul_emod_right],?_⟩
 have h5:a+s0 - 1=(s0 - 1 - (-a) % s0)+s0*(-((-a) / s0)):=by
  rw [Int.mul_neg];omega
 rw [h5,Int.add_mul_ediv_left _ _ (by omega),h4,Int.mul_ediv_cancel_left _ (by omega),Int.ediv_eq_zero_of_lt (by omega) (by omega)]
 omega
theorem zNz {s0 a b:Int} (h:0<s0) (hab:a≤b) (hb:∃t,b=s0*t):Lo s0 a≤b:=by
 obtain ⟨h1,h2,h3,_⟩:=zFO (a:=a) h
 obtain ⟨t,rfl⟩:=hb
 have h4:=Int.mul_ediv_add_emod (Lo s0 a) s0
 rw [h3] at h4
 have h5:s0*(Lo s0 a / s0)<s0*(t+1):=by
  rw [Int.mul_add];omega
 have h6:Lo s0 a / s0<t+1:=Int.lt_of_mul_lt_mul_left h5 (by omega)
 have h7:s0*(Lo s0 a / s0)≤s0*t:=Int.mul_le_mul_of_nonneg_left (by omega) (by omega)
 omega
theorem zMl:∀(zs:List Int) (L x:Int),x∈G zs L→x∈zs
 |[],_,_,h=>by cases h
 |z::zs,L,x,h=>by
  rcases oV.mp h with h|h
  ·rw [(List.mem_replicate.mp h).2]
   exact OD
  ·exact oY _ (zMl zs _ x h)
theorem zFd (z:Int):∀n:Nat,(List.replicate n z).sum=z*(n:Int)
 |0=>by simp
 |n+1=>by
  rw [List.replicate_succ,List.sum_cons,zFd z n,Int.natCast_succ,Int.mul_add];omega
theorem G_sum {l:List Int} {s:Int} {k:Nat} (hR:Rw l s k):∀(s0 L:Int),l[0]?=some s0→0≤L→(G l.reverse L).sum+L % s0=L:=by
 induction hR with
 |@one s h1 h2=>
  intro s0 L h0 hL
  cases h0
  show (List.replicate (L / s).toNat s++[]).sum+L % s=L
  rw [oZ,zFd,Int.toNat_of_nonneg (Int.ediv_nonneg hL (by omega))]
  exact Int.mul_ediv_add_emod L s
 |@more l s u n h0 h1 h2 ih=>
  intro s0 L h3 hL
  have hp:=h0.pos
  have hl:=h0.len
  rw [oL (by omega)] at h3
  have hs:=h0.big.1
  have hpos:1≤s*u:=(Rw.more h0 h1 h2).big.1
  have hi:=ih s0 (L % (s*u)) h3 (Int.emod_nonneg _ (by omega))
  obtain ⟨z,e1,e2,e3,t,e4⟩:=Rw.head h0
  rw [h3] at e1
  cases e1
  have hd:L % (s*u) % s0=L % s0:=Int.emod_emod_of_dvd L ⟨t*u,by rw [e4,Int.mul_assoc]⟩
  rw [List.reverse_append];show (List.replicate (L / (s*u)).toNat (s*u)++G l.reverse (L % (s*u))).sum+L % s0=L
  rw [List.sum_append,zFd,Int.toNat_of_nonneg (Int.ediv_nonneg hL (by omega))]
  have:=Int.mul_ediv_add_emod L (s*u)
  omega
theorem zLn:∀zs:List Int,G zs 0=[]
 |[]=>rfl
 |z::zs=>by
  show List.replicate ((0:Int) / z).toNat z++G zs (0 % z)=[]
  rw [Int.zero_ediv,Int.zero_emod,zLn zs];rfl
theorem zG3 {l:List Int} {s:Int} {k:Nat} (hR:Rw l s k):k≤5→∀(left:Int) (found:List Int),0≤left∧left<41*s→found.length+41*k≤1000→
  ∃r,forP zAt l.reverse (left,found)=some (r,found++G l.reverse left):=by
 have step:∀(z left:Int) (found:List Int),1≤z∧z≤2073600→0≤left∧left<41*z→found.length≤959→zAt z (left,found)=some (left % z,found++List.replicate (left / z).toNat z):=fun z left found hz hl hf=>by
  have h1:0≤left / z:=Int.ediv_nonneg hl.1 (by omega)
  have h2:left / z<41:=Int.ediv_lt_of_lt_mul (by omega) hl.2
  unfold zAt;dsimp only;rw [zDH (by omega),oA,zMQ ⟨by omega,by omega,by simp;omega⟩,oA,zKg,zJO (by rw [oT];omega),oA,zD9 (by omega)]
  rfl
 induction hR with
 |@one s h1 h2=>
  intro _ left found hl hf
  refine ⟨left % s,?_⟩
  show (zAt s (left,found)).bind _=_
  rw [step s left found (by omega) hl (by omega)]
  show some (left % s,_)=some (left % s,found++(List.replicate (left / s).toNat s++[]))
  rw [oZ]
 |@more l s u n h0 h1 h2 ih=>
  intro hk left found hl hf
  have hsb:=(Rw.more h0 h1 h2).bound hk
  have hs1:=h0.big.1
  have hpos:1≤s*u:=(Rw.more h0 h1 h2).big.1
  have hlt:left % (s*u)<s*u:=Int.emod_lt_of_pos _ (by omega)
  have hnn:0≤left % (s*u):=Int.emod_nonneg _ (by omega)
  have hsu:s*u≤s*12:=Int.mul_le_mul_of_nonneg_left h2 (by omega)
  have hq0:0≤left / (s*u):=Int.ediv_nonneg hl.1 (by omega)
  have hq1:left / (s*u)<41:=Int.ediv_lt_of_lt_mul (by omega) hl.2
  obtain ⟨r,hr⟩:=ih (by omega) (left % (s*u)) (found++List.replicate (left / (s*u)).toNat (s*u)) (by omega) (by rw [oI,oT];omega)
  refine ⟨r,?_⟩
  rw [List.reverse_append,List.reverse_singleton,List.singleton_append];show (zAt (s*u) (left,found)).bind (forP zAt l.reverse)=_
  rw [step (s*u) left found (by omega) hl (by omega),oA,hr,List.append_assoc]
  rfl
theorem zIH {l:List Int} {s s0 a:Int} {k:Nat} (hR:Rw l s k) (hk:k≤5) (h0:l[0]?=some s0) (ha:0≤a∧a≤40*s):zAr l a=some (G l.reverse (Lo s0 a)):=by
 obtain ⟨z,e1,e2,e3,t,e4⟩:=hR.head
 rw [h0] at e1
 cases e1
 have hs:=hR.big.1
 obtain ⟨l1,l2,l3,_⟩:=zFO (s0:=s0) (a:=a) (by omega)
 have l4:=zNz (s0:=s0) (a:=a) (b:=40*s) (by omega) ha.2 ⟨40*t,by rw [e4,←Int.mul_assoc,←Int.mul_assoc,Int.mul_comm 40 s0]⟩
 obtain ⟨r,hr⟩:=zG3 hR hk (Lo s0 a) [] (by omega) (by simp;omega)
 unfold zAr;rw [zCT (by omega) h0,oA,zD9 (by omega),oA,oA,oA]
 show (forP zAt l.reverse (Lo s0 a,[])).bind _=_
 rw [hr,List.nil_append];rfl
open TL
abbrev U (s:Nat):Str:=⟨#[s]⟩
def dg (q:Int):Str:=Str.ofString (toString q)
theorem zHW {q:Int} (h:0≤q):tl (dg q)=numL q.toNat:=by
 have:q=((q.toNat:Nat):Int):=by omega
 unfold dg;rw [this];exact tl_num _
theorem zIo {q:Int} (h0:0≤q) (h1:q<10 ^ 18):1≤(dg q).length∧(dg q).length≤18:=by
 rw [len_tl,zHW h0];refine ⟨?_,numL_len (by decide) (by omega)⟩
 have:=numL_ne q.toNat
 cases h:numL q.toNat with
 |nil=>exact absurd h this
 |cons x l=>simp
theorem zKr {v:Int} (h0:0≤v) (h1:v<10 ^ 18):v.natAbs.log2<1920:=by
 by_cases hv:v.natAbs=0
 ·rw [hv]
  decide
 ·rw [Nat.log2_lt hv]
  have:v.natAbs<2 ^ 60:=by omega
  exact Nat.lt_of_lt_of_le this (Nat.pow_le_pow_right (by omega) (by omega))
theorem zMN {v:Int} (h0:0≤v) (h1:v<10 ^ 18):pStr v=some (dg v):=if_pos (zKr h0 h1)
theorem zHa:∀(k n:Nat),10 ^ k≤n→k<(numL n).length
 |0,n,_=>by
  have:=numL_ne n
  cases h:numL n with
  |nil=>exact absurd h this
  |cons x l=>simp
 |k+1,n,h=>by
  have h10:10≤n:=by
   have:1≤10 ^ k:=Nat.one_le_pow _ _ (by omega)
   rw [Nat.pow_succ] at h
   omega
  rw [numL_step h10,oI]
  have:=zHa k (n / 10) (by rw [Nat.pow_succ] at h;omega)
  simp
  omega
theorem zJh:∀(n:Nat),1≤n→∃c l,numL n=c::l∧c≠48:=by
 intro n
 induction n using Nat.strongRecOn with
 |_ n ih=>
  intro h
  by_cases h10:n<10
  ·exact ⟨_,_,numL_lt h10,by omega⟩
  ·obtain ⟨c,l,e,hc⟩:=ih (n / 10) (by omega) (by omega)
   rw [numL_step (by omega),e]
   exact ⟨c,l++[48+n % 10],rfl,hc⟩
theorem figs:("0123456789":Str).cps.toList=[48,49,50,51,52,53,54,55,56,57]:=by decide+kernel
theorem zKi {q:Int} (h0:0≤q) (h1:q<10 ^ 18):zBc (dg q)=some (if q<10 ^ 9 then some q else none):=by
 have hl:=zIo h0 h1
 unfold zBc;have e1:zKj (dg q)=some ((dg q).length:Int):=if_pos (by omega)
 rw [e1,oA];by_cases hq:q<10 ^ 9
 ·have hl9:(dg q).length≤9:=by
   rw [len_tl,zHW h0];exact numL_len (by decide) (by omega)
  have c1:(!(decide (1≤((dg q).length:Int))&&decide (((dg q).length:Int)≤9)))=false:=by
   rw [decide_eq_true (by omega),decide_eq_true (by omega)]
   rfl
  rw [c1,if_neg (by simp)]
  have hsl:(zDY (dg q)).length=(dg q).length:=by rw [len_tl];simp [zDY]
  rw [zFE (by omega),oA]
  have e2:mapO zAQ (zDY (dg q))=some ((zDY (dg q)).map fun _=>true):=by
   refine zDQ fun x hx=>?_;unfold zDY at hx;obtain ⟨c,hc,rfl⟩:=oW.mp hx
   have hc:c∈tl (dg q):=hc
   rw [zHW h0] at hc
   have hd:=numL_digits q.toNat c hc
   unfold zAQ
   have:pInS false ⟨#[c]⟩ "0123456789"=some (false ^^ decide (c∈("0123456789":Str).cps.toList)):=rfl
   rw [this,figs]
   have:decide (c∈[48,49,50,51,52,53,54,55,56,57])=true:=by
    rw [decide_eq_true_eq];simp only [OB,List.mem_nil_iff,or_false]
    omega
   rw [this];rfl
  rw [e2,oA];have e3:((zDY (dg q)).map fun _=>true).all id=true:=zDn fun b hb=>by
   obtain ⟨_,_,rfl⟩:=oW.mp hb
   rfl
  rw [e3,oA,if_neg (by simp)]
  have e4:zJf (dg q)=some q:=by
   unfold zJf;rw [if_pos (by omega)]
   have:=int_num (n:=q.toNat) (Nat.le_trans (numL_len (k:=18) (by decide) (by omega)) (by decide))
   unfold dg;have hq':((q.toNat:Nat):Int)=q:=by omega
   rw [hq'] at this
   exact this
  have h48:("0":Str)=⟨#[48]⟩:=by decide+kernel
  by_cases hz:q=0
  ·subst hz
   have:dg 0="0":=by decide+kernel
   rw [e4,this];have e5:pIxS "0" 0=some "0":=by decide+kernel
   rw [e5];rfl
  ·obtain ⟨c,l,e,hc⟩:=zJh q.toNat (by omega)
   have e5:pIxS (dg q) 0=some ⟨#[c]⟩:=by
    unfold pIxS;rw [if_pos (by omega)]
    have:(dg q).cps.toList=c::l:=(zHW h0).trans e
    rw [this]
    have:pIx (c::l) 0=some c:=zCT (by omega) rfl
    unfold pIx at this;rw [this];rfl
   rw [e5,oA]
   have:¬(⟨#[c]⟩:Str)="0":=fun z=>by
    rw [h48] at z
    injection z with z
    have:=congrArg Array.toList z
    simp at this
    exact hc this
   rw [decide_eq_false this,if_neg (by simp),oA,if_neg (by simp),e4,if_pos hq]
   rfl
 ·have hl9:9<(dg q).length:=by
   rw [len_tl,zHW h0];exact zHa 9 _ (by omega)
  have c1:(!(decide (1≤((dg q).length:Int))&&decide (((dg q).length:Int)≤9)))=true:=by
   rw [decide_eq_false (p:=((dg q).length:Int)≤9) (by omega),Bool.and_false]
   rfl
  rw [c1,if_pos rfl,oA,if_pos rfl,if_neg hq]
def pc (q:Int) (l:Str):Str:=if 1≤q then dg q++l else ""
theorem zG2 {q:Int} {s:Nat} (h:q<10 ^ 18):(pc q (U s)).length≤19:=by
 unfold pc;split
 ·have:=(zIo (q:=q) (by omega) h).2
  rw [zCX]
  have:(U s).length=1:=rfl
  omega
 ·rw [zGH];omega
theorem zLH {q:Int} {s:Nat} (h1:1≤q):1≤(pc q (U s)).length:=by
 unfold pc;rw [if_pos h1,zCX]
 have:(U s).length=1:=rfl
 omega
theorem zHI {q:Int} {s k:Nat} (hk:57<k) (hs:k≠s):k ∉ tl (pc q (U s)):=by
 unfold pc;split
 ·rw [tl_append,zHW (by omega)]
  intro h
  rcases oV.mp h with h|h
  ·exact numL_free (.inr hk) h
  ·have:k∈[s]:=h
   simp at this
   exact hs this
 ·intro h
  rw [zGI] at h
  cases h
def tx (q1 q2 q3:Int) (a b c:Nat):Str:=pc q1 (U a)++(pc q2 (U b)++pc q3 (U c))
def wt (q1 q2 q3:Int) (a b c:Nat):Str:=if tx q1 q2 q3 a b c="" then "0"++U c else tx q1 q2 q3 a b c
theorem zJW (x y z:Str):x++y++z=x++(y++z):=ext_tl (by rw [tl_append,tl_append,tl_append,tl_append,List.append_assoc])
theorem zI2 {n w:Int} {s:Nat} {f:Str} (hn:0≤n∧n<10 ^ 18) (hw:0<w∧w<1000) (hf:f.length≤1000):zAy (U s,w) (f,n)=some (f++pc (n / w) (U s),n % w):=by
 have h0:0≤n / w:=Int.ediv_nonneg hn.1 (by omega)
 have h1:n / w≤n:=Int.ediv_le_self w hn.1
 have hl:=zIo h0 (by omega)
 have hs:(U s).length=1:=rfl
 have hc:w≤n ↔ 1≤n / w:=by
  rw [Int.le_ediv_iff_mul_le hw.1];omega
 unfold zAy pc;have e1:pDiv n w=some (n / w):=zDH (by omega)
 have e2:pMod n w=some (n % w):=zD9 (by omega)
 have e3:zD7 (dg (n / w)) (U s)=some (dg (n / w)++U s):=zH0 (by omega)
 by_cases hc':w≤n
 ·rw [if_pos (by simpa using hc'),if_pos (hc.mp hc')]
  simp only [e1,zMN h0 (by omega),e3,oA,e2]
  rw [zH0 (by rw [zCX];omega)]
  rfl
 ·rw [if_neg (by simpa using hc'),if_neg (fun z=>hc' (hc.mpr z)),zJV]
  simp only [oA,e2]
structure U3 (v w:Int) (a b c:Nat):Prop where
 hv:0<v∧v<1000
 hw:0<w∧w<1000
 ha:57<a
 hb:57<b
 hc:57<c
 ha':a<128
 hb':b<128
 hc':c<128
 ab:a≠b
 ac:a≠c
 bc:b≠c
def wn (n v w:Int) (a b c:Nat):Str:=wt (n / v) (n % v / w) (n % v % w) a b c
section
variable {v w:Int} {a b c:Nat}
theorem U3.q (u:U3 v w a b c) {n:Int} (hn:0≤n∧n<10 ^ 18):(0≤n / v∧n / v<10 ^ 18)∧(0≤n % v / w∧n % v / w<1000)∧(0≤n % v % w∧n % v % w<1000)∧n=n / v*v+n % v / w*w+n % v % w:=by
 have h1:=u.hv
 have h2:=u.hw
 have a1:0≤n / v:=Int.ediv_nonneg hn.1 (by omega)
 have a2:n / v≤n:=Int.ediv_le_self v hn.1
 have a3:=Int.emod_nonneg n (b:=v) (by omega)
 have a4:=Int.emod_lt_of_pos n h1.1
 have a5:0≤n % v / w:=Int.ediv_nonneg a3 (by omega)
 have a6:n % v / w≤n % v:=Int.ediv_le_self w a3
 have a7:=Int.emod_nonneg (n % v) (b:=w) (by omega)
 have a8:=Int.emod_lt_of_pos (n % v) h2.1
 refine ⟨⟨a1,by omega⟩,⟨a5,by omega⟩,⟨a7,by omega⟩,?_⟩
 have e1:=Int.mul_ediv_add_emod n v
 have e2:=Int.mul_ediv_add_emod (n % v) w
 rw [Int.mul_comm] at e1 e2
 omega
theorem units_text (u:U3 v w a b c) {n:Int} (hn:0≤n∧n<10 ^ 18):zBj n [(U a,v),(U b,w),(U c,1)]=some (wn n v w a b c):=by
 obtain ⟨g1,g2,g3,_⟩:=u.q hn
 have h1:=u.hv
 have h2:=u.hw
 have a3:=Int.emod_nonneg n (b:=v) (by omega)
 have a4:=Int.emod_lt_of_pos n h1.1
 have l1:=zG2 (s:=a) g1.2
 have l2:=zG2 (q:=n % v / w) (s:=b) (by omega)
 have l3:=zG2 (q:=n % v % w) (s:=c) (by omega)
 unfold zBj;rw [oA];have e:forP zAy [(U a,v),(U b,w),(U c,1)] (("":Str),n)=some (tx (n / v) (n % v / w) (n % v % w) a b c,n % v % w % 1):=by
  show (zAy (U a,v) ("",n)).bind _=_
  rw [zI2 hn h1 (by rw [zGH];omega),oA,zJH]
  show (zAy (U b,w) _).bind _=_
  rw [zI2 ⟨a3,by omega⟩ h2 (by omega),oA]
  show (zAy (U c,1) _).bind _=_
  rw [zI2 ⟨g3.1,by omega⟩ (by omega) (by rw [zCX];omega),oA,Int.ediv_one]
  unfold tx;rw [zJW];rfl
 rw [e,oA];unfold wn wt;by_cases hz:tx (n / v) (n % v / w) (n % v % w) a b c=""
 ·rw [if_pos (by simpa using hz),if_pos hz]
  have e2:pIx [(U a,v),(U b,w),(U c,(1:Int))] (-1)=some (U c,1):=rfl
  have e3:zD7 "0" (U c)=some ("0"++U c):=zH0 (by
   have:("0":Str).length=1:=by decide+kernel
   have:(U c).length=1:=rfl
   omega)
  rw [e2,oA];show (zD7 "0" (U c)).bind _=_
  rw [e3];rfl
 ·rw [if_neg (by simpa using hz),if_neg hz]
theorem b_hit {q u found:Int} {s:Nat} {t:Str} (hs:57<s) (h0:0≤q) (h1:q<10 ^ 18) (hu:0<u∧u<1000) (ht:t.length≤1000):
  zAu (U s,u) (found,dg q++(U s++t))=some (if q<10 ^ 9 then .nx (found+q*u,t) else .rt none):=by
 have hl:=zIo h0 h1
 have hsl:(U s).length=1:=rfl
 have e1:zBE (dg q++(U s++t)) (U s)=some (dg q,U s,t):=by
  unfold zBE;rw [if_pos ⟨rfl,by rw [zCX,zCX];omega⟩,←zJW,partition_app (y:=U s) (s:=s) (S:=[]) rfl]
  rw [zHW h0];exact numL_free (.inr hs)
 unfold zAu;rw [e1,oA];dsimp only;rw [decide_eq_true rfl,if_pos rfl,zKi h0 h1,oA];by_cases hq:q<10 ^ 9
 ·rw [if_pos hq,if_pos hq]
  show (pMul q u).bind _=_
  rw [zC6 (.inr (by omega))]
  rfl
 ·rw [if_neg hq,if_neg hq]
  rfl
theorem zNv {u found:Int} {s:Nat} {t:Str} (h:s ∉ tl t) (ht:t.length≤1000):zAu (U s,u) (found,t)=some (.nx (found,t)):=by
 have e1:zBE t (U s)=some (t,Str.empty,Str.empty):=by
  unfold zBE;rw [if_pos ⟨rfl,by omega⟩,partition_none (y:=U s) (s:=s) (S:=[]) rfl h]
 unfold zAu;rw [e1,oA];dsimp only
 have:¬Str.empty=U s:=fun z=>by
  have:=congrArg (fun x:Str=>x.cps.toList) z
  cases this
 rw [decide_eq_false this,if_neg (by simp)]
theorem b_pc {q u found:Int} {s:Nat} {t:Str} (hs:57<s) (hst:s ∉ tl t) (h0:0≤q) (h1:q<10 ^ 18) (hu:0<u∧u<1000) (ht:t.length≤1000):
  zAu (U s,u) (found,pc q (U s)++t)=some (if q<10 ^ 9 then .nx (found+q*u,t) else .rt none):=by
 unfold pc;by_cases hq:1≤q
 ·rw [if_pos hq,zJW]
  exact b_hit hs h0 h1 hu ht
 ·have:q=0:=by omega
  subst this;rw [if_neg (by omega),zJH,zNv hst ht,if_pos (by omega),Int.zero_mul,Int.add_zero]
theorem tx_ne {q1 q2 q3:Int} (h:1≤q1∨1≤q2∨1≤q3):¬tx q1 q2 q3 a b c="":=by
 refine zLT ?_;unfold tx;rw [zCX,zCX]
 rcases h with h|h|h
 ·have:=zLH (s:=a) h;omega
 ·have:=zLH (s:=b) h;omega
 ·have:=zLH (s:=c) h;omega
theorem units_in (u:U3 v w a b c) {n:Int} (hn:1≤n∧n<10 ^ 18):zCJ (wn n v w a b c) [(U a,v),(U b,w),(U c,1)]=some (if n / v<10 ^ 9 then some n else none):=by
 obtain ⟨g1,g2,g3,g4⟩:=u.q (n:=n) ⟨by omega,hn.2⟩
 have h1:=u.hv
 have h2:=u.hw
 have l2:=zG2 (q:=n % v / w) (s:=b) (by omega)
 have l3:=zG2 (q:=n % v % w) (s:=c) (by omega)
 have hne:¬tx (n / v) (n % v / w) (n % v % w) a b c="":=by
  refine tx_ne ?_;by_cases z1:1≤n / v
  ·exact .inl z1
  ·by_cases z2:1≤n % v / w
   ·exact .inr (.inl z2)
   ·have e1:n / v=0:=by omega
    have e2:n % v / w=0:=by omega
    rw [e1,e2] at g4
    omega
 have ew:wn n v w a b c=tx (n / v) (n % v / w) (n % v % w) a b c:=if_neg hne
 have hut:=units_text u (n:=n) ⟨by omega,hn.2⟩
 unfold zCJ;rw [ew] at hut ⊢
 have f1:a ∉ tl (pc (n % v / w) (U b)++pc (n % v % w) (U c)):=by
  rw [tl_append];intro h
  rcases oV.mp h with h|h
  ·exact zHI u.ha u.ab h
  ·exact zHI u.ha u.ac h
 have f2:b ∉ tl (pc (n % v % w) (U c)):=zHI u.hb u.bc
 have f3:c ∉ tl ("":Str):=by
  rw [zGI];intro h
  cases h
 have s1:zAu (U a,v) (0,tx (n / v) (n % v / w) (n % v % w) a b c)=_:=b_pc (found:=0) u.ha f1 g1.1 g1.2 h1 (by rw [zCX];omega)
 have s2:zAu (U b,w) (0+n / v*v,pc (n % v / w) (U b)++pc (n % v % w) (U c))=_:=b_pc (found:=0+n / v*v) u.hb f2 g2.1 (by omega) h2 (by omega)
 have s3:zAu (U c,1) (0+n / v*v+n % v / w*w,pc (n % v % w) (U c)++"")=_:=b_pc (found:=0+n / v*v+n % v / w*w) (u:=1) u.hc f3 g3.1 (by omega) (by omega) (by rw [zGH];omega)
 rw [zJV] at s3
 rw [if_pos (by omega)] at s2 s3
 have e:forR zAu [(U a,v),(U b,w),(U c,1)] (0,tx (n / v) (n % v / w) (n % v % w) a b c)=some (if n / v<10 ^ 9 then .nx (n,"") else .rt none):=by
  unfold forR;rw [s1,oA];by_cases hq:n / v<10 ^ 9
  ·rw [if_pos hq,if_pos hq]
   dsimp only;unfold forR;rw [s2,oA];dsimp only;unfold forR;rw [s3,oA];dsimp only;unfold forR
   have:0+n / v*v+n % v / w*w+n % v % w*1=n:=by omega
   rw [this]
  ·rw [if_neg hq,if_neg hq]
 rw [e,oA];by_cases hq:n / v<10 ^ 9
 ·rw [if_pos hq,if_pos hq]
  show ((if decide (("":Str)="")=true then _ else _:Option Bool)).bind _=_
  rw [decide_eq_true rfl,if_pos rfl];dsimp only;rw [hut,oA,decide_eq_true rfl];rfl
 ·rw [if_neg hq,if_neg hq]
  rfl
end
theorem uw:U3 112 14 99 115 112:=⟨by omega,by omega,by omega,by omega,by omega,by omega,by omega,by omega,by omega,by omega,by omega⟩
theorem zMD:zA8=[(U 99,112),(U 115,14),(U 112,1)]:=by decide+kernel
abbrev ww (n:Int):Str:=wn n 112 14 99 115 112
theorem zJ3:zBI "0p"=some (some 0):=by decide+kernel
theorem ww_0:ww 0="0p":=by decide+kernel
theorem zIV {b:List Int} {n m:Int} (h:Bok b n) (hn:n+10<2147483648) (hm:0<m):Wp (zDx b m) fun r=>(0≤r.1∧r.1<m)∧Bok r.2 (n+4):=by
 unfold zDx;refine zAx (zIb (by omega)) ?_
 refine zAw (zHA (I:=fun j s=>Bok s.1 (n+j)) (by simpa using h) ?_) fun s hs=>?_
 ·intro j x s hx hs
  have hj:=(oE.mp hx).1
  rw [zBD] at hj
  unfold zCY;refine zAw (zEo hs (by omega) (by omega)) fun r hr=>?_
  refine zEz ?_;refine zAS ?_
  have:=hr.2
  have e:n+(j:Int)+1=n+((j+1:Nat):Int):=by omega
  rw [←e];exact this
 ·refine zAx (zD9 hm) ?_
  refine zAS ⟨⟨Int.emod_nonneg _ (by omega),Int.emod_lt_of_pos _ hm⟩,?_⟩
  rw [zBD] at hs
  exact hs
theorem weight_text {n:Int} (hn:0≤n∧n<10 ^ 18):zBx n=some (ww n):=by
 unfold zBx;rw [zMD,units_text uw hn];rfl
theorem weight_in {n:Int} (hn:0≤n∧n<10 ^ 18):zBI (ww n)=some (if n<112*1000000000 then some n else none):=by
 by_cases h:n=0
 ·subst h
  rw [ww_0,zJ3];rfl
 ·unfold zBI
  rw [zMD,units_in uw ⟨by omega,hn.2⟩]
  by_cases hq:n<112*1000000000
  ·rw [if_pos hq,if_pos (by omega)];rfl
  ·rw [if_neg hq,if_neg (by omega)];rfl
theorem Rw.dvd {l:List Int} {s:Int} {k:Nat} (hR:Rw l s k):∀z∈l,z ∣ s:=by
 induction hR with
 |one h1 h2=>
  intro z hz
  rw [oX] at hz
  exact ⟨1,by rw [hz,Int.mul_one]⟩
 |@more l s t n h0 h1 h2 ih=>
  intro z hz
  rcases oV.mp hz with h|h
  ·obtain ⟨q,e⟩:=ih z h
   exact ⟨q*t,by rw [e,Int.mul_assoc]⟩
  ·rw [oX] at h
   exact ⟨1,by rw [h,Int.mul_one]⟩
theorem zMM {l:List Int} {s:Int} {k:Nat} (hR:Rw l s k):∀(z L:Int),z∈l→0≤L→((G l.reverse L).filter fun y=>decide (z≤y)).sum=L - L % z:=by
 induction hR with
 |@one s h1 h2=>
  intro z L hz hL
  rw [oX] at hz
  subst hz;show ((List.replicate (L / z).toNat z++[]).filter _).sum=_
  rw [oZ,List.filter_eq_self.mpr (fun y hy=>by rw [(List.mem_replicate.mp hy).2];exact decide_eq_true (Int.le_refl _)),zFd,Int.toNat_of_nonneg (Int.ediv_nonneg hL (by omega))]
  have:=Int.mul_ediv_add_emod L z
  omega
 |@more l s t n h0 h1 h2 ih=>
  intro z L hz hL
  have hs:=h0.big.1
  have hpos:1≤s*t:=(Rw.more h0 h1 h2).big.1
  have hst:s<s*t:=by
   have:s*2≤s*t:=Int.mul_le_mul_of_nonneg_left h1 (by omega)
   omega
  have hzs:z≤s*t:=((Rw.more h0 h1 h2).mem z hz).2
  have hd:z ∣ s*t:=(Rw.more h0 h1 h2).dvd z hz
  have e:=Int.mul_ediv_add_emod L (s*t)
  have hr:(List.replicate (L / (s*t)).toNat (s*t)).filter (fun y=>decide (z≤y))=List.replicate (L / (s*t)).toNat (s*t):=List.filter_eq_self.mpr fun y hy=>by
   rw [(List.mem_replicate.mp hy).2];exact decide_eq_true hzs
  rw [List.reverse_append];show ((List.replicate (L / (s*t)).toNat (s*t)++G l.reverse (L % (s*t))).filter _).sum=_
  rw [List.filter_append,List.sum_append,hr,zFd,Int.toNat_of_nonneg (Int.ediv_nonneg hL (by omega))]
  rcases oV.mp hz with h|h
  ·rw [ih z (L % (s*t)) h (Int.emod_nonneg _ (by omega)),Int.emod_emod_of_dvd L hd]
   omega
  ·rw [oX] at h
   subst h;have hn:(G l.reverse (L % (s*t))).filter (fun y=>decide (s*t≤y))=[]:=List.filter_eq_nil_iff.mpr fun y hy hc=>by
    have h3:=(h0.mem y (List.mem_reverse.mp (zMl _ _ y hy))).2
    have h4:=of_decide_eq_true hc
    omega
   rw [hn,List.sum_nil];omega
theorem zGk {l:List Int} {s z L:Int} {k:Nat} (hR:Rw l s k) (hk:k≤5) (hz:z∈l) (hL:0≤L) (hg:(G l.reverse L).length≤100000):zBk (G l.reverse L) z=some (L / z):=by
 have hb:=hR.bound hk
 have h1:=hR.mem z hz
 unfold zBk;rw [zFE hg,oA,zMM hR z L hz hL,zDH (by omega),oA]
 congr 1
 have e:=Int.mul_ediv_add_emod L z
 have:L - L % z=z*(L / z):=by omega
 rw [this,Int.mul_ediv_cancel_left _ (by omega)]
theorem G_len {l:List Int} {s:Int} {k:Nat} (hR:Rw l s k):∀L:Int,0≤L→L<41*s→(G l.reverse L).length≤41*k:=by
 induction hR with
 |@one s h1 h2=>
  intro L hL hl
  have h2:L / s<41:=Int.ediv_lt_of_lt_mul (by omega) hl
  have h3:=Int.ediv_nonneg hL (show 0≤s by omega)
  show (List.replicate (L / s).toNat s++[]).length≤_
  rw [oZ,oT];omega
 |@more l s t n h0 h1 h2 ih=>
  intro L hL hl
  have hs:=h0.big.1
  have hpos:1≤s*t:=(Rw.more h0 h1 h2).big.1
  have hsu:s*t≤s*12:=Int.mul_le_mul_of_nonneg_left h2 (by omega)
  have h4:L / (s*t)<41:=Int.ediv_lt_of_lt_mul (by omega) hl
  have h5:=Int.ediv_nonneg hL (show 0≤s*t by omega)
  have h6:=Int.emod_nonneg L (b:=s*t) (by omega)
  have h7:=Int.emod_lt_of_pos L (b:=s*t) (by omega)
  have:=ih (L % (s*t)) h6 (by omega)
  rw [List.reverse_append];show (List.replicate (L / (s*t)).toNat (s*t)++G l.reverse (L % (s*t))).length≤_
  rw [oI,oT];omega
theorem zGm (l:List Int) (h:l.length≤100000):Sm 1 ((eL eI) l):=.lst (by rw [oJ];exact h) fun d hd=>by
 obtain ⟨x,_,rfl⟩:=oW.mp hd
 exact .int x
theorem zI4 (l:List Int):(eL (eO eI)) (l.map some)=(eL eI) l:=by
 show PyData.list ((l.map some).map (eO eI))=PyData.list (l.map eI)
 rw [List.map_map];rfl
structure Sk (l:List Int) (s s0 a:Int) (k:Nat):Prop where
 row:Rw l s k
 few:k≤5
 head:l[0]?=some s0
 am:0≤a∧a≤40*s
theorem Sk.s0 {l:List Int} {s s0 a:Int} {k:Nat} (h:Sk l s s0 a k):1≤s0∧s0≤100∧∃t,s=s0*t:=by
 obtain ⟨z,e1,e2,e3,e4⟩:=h.row.head
 rw [h.head] at e1
 cases e1
 exact ⟨e2,e3,e4⟩
theorem Sk.lo {l:List Int} {s s0 a:Int} {k:Nat} (h:Sk l s s0 a k):0≤Lo s0 a∧Lo s0 a≤40*s:=by
 obtain ⟨e2,e3,t,e4⟩:=h.s0
 have h1:=h.am
 obtain ⟨l1,_,_,_⟩:=zFO (s0:=s0) (a:=a) (by omega)
 exact ⟨by omega,zNz (by omega) h1.2 ⟨40*t,by rw [e4,←Int.mul_assoc,←Int.mul_assoc,Int.mul_comm 40 s0]⟩⟩
theorem Sk.par {l:List Int} {s s0 a:Int} {k:Nat} (h:Sk l s s0 a k):zAr l a=some (G l.reverse (Lo s0 a)):=zIH h.row h.few h.head h.am
theorem Sk.len {l:List Int} {s s0 a:Int} {k:Nat} (h:Sk l s s0 a k):(G l.reverse (Lo s0 a)).length≤205:=by
 have h1:=h.lo
 have h2:=h.row.big.1
 have:=G_len h.row (Lo s0 a) h1.1 (by omega)
 have:=h.few
 omega
theorem Sk.whole {l:List Int} {s s0 a:Int} {k:Nat} (h:Sk l s s0 a k):(a+s0 - 1) / s0*s0=Lo s0 a:=by
 obtain ⟨e2,e3,t,e4⟩:=h.s0
 obtain ⟨_,_,l3,l4⟩:=zFO (s0:=s0) (a:=a) (by omega)
 have e:=Int.mul_ediv_add_emod (Lo s0 a) s0
 rw [l4,Int.mul_comm];omega
theorem zIQ {l:List Int} {p:Int×Int} (hp:p∈l.zip (l.drop 1)):∃i,l[i]?=some p.1∧l[i+1]?=some p.2:=by
 obtain ⟨i,hi⟩:=List.getElem?_of_mem hp
 have h:=List.getElem?_zip_eq_some.mp hi
 refine ⟨i,h.1,?_⟩
 have:=h.2
 rw [List.getElem?_drop] at this
 rwa [Nat.add_comm] at this
theorem zHE {l:List Int} {s s0 a:Int} {k:Nat} (h:Sk l s s0 a k):zA2 l a=some true:=by
 obtain ⟨e2,e3,t,e4⟩:=h.s0
 have hlo:=h.lo
 have hlen:=h.len
 have hix:pIx l 0=some s0:=zCT (by omega) h.head
 have hm0:s0∈l:=oU h.head
 have hb:=h.row.bound h.few
 unfold zA2;rw [h.par,oA,hix,oA,oA,zDH (by omega),oA,oA,zC6 (.inr (by omega)),oA,h.whole]
 have hsum:(G l.reverse (Lo s0 a)).sum=Lo s0 a:=by
  have h1:=G_sum h.row s0 (Lo s0 a) h.head hlo.1
  have h2:=(zFO (s0:=s0) (a:=a) (by omega)).2.2.1
  omega
 have hc:(!decide ((G l.reverse (Lo s0 a)).sum=Lo s0 a))=false:=by rw [decide_eq_true hsum];rfl
 rw [hc,if_neg Bool.false_ne_true,oA,zGk h.row h.few hm0 hlo.1 (by omega),oA,oA,zDH (by omega),oA]
 have hc2:(!decide (Lo s0 a / s0=Lo s0 a / s0))=false:=by rw [decide_eq_true rfl];rfl
 rw [hc2,oA,if_neg Bool.false_ne_true];have hcut:cutL l (some 1) none=l.drop 1:=zHo l 1
 rw [hcut];have loop:∀ps:List (Int×Int),(∀p∈ps,∃i,l[i]?=some p.1∧l[i+1]?=some p.2)→forR (zAC (G l.reverse (Lo s0 a)) (Lo s0 a)) ps ()=some (.nx ()):=by
  intro ps
  induction ps with
  |nil=>intro _;rfl
  |cons p ps ih=>
   intro hp
   obtain ⟨i,g1,g2⟩:=hp p OD
   obtain ⟨_,u,u1,u2,hu⟩:=h.row.step i _ _ g1 g2
   have m1:=oU g1
   have m2:=oU g2
   have b1:=h.row.mem _ m1
   have b2:=h.row.mem _ m2
   have hq:p.2 / p.1=u:=by rw [hu,Int.mul_ediv_cancel_left _ (by omega)]
   have step:zAC (G l.reverse (Lo s0 a)) (Lo s0 a) p ()=some (.nx ()):=by
    unfold zAC;rw [zGk h.row h.few m2 hlo.1 (by omega),oA,zDH (by omega),oA]
    have hc3:(!decide (Lo s0 a / p.2=Lo s0 a / p.2))=false:=by rw [decide_eq_true rfl];rfl
    rw [hc3,if_neg Bool.false_ne_true,zGk h.row h.few m1 hlo.1 (by omega),oA,oA,zDH (by omega),oA,hq,zC6 (.inr (by omega)),oA]
    have hge:Lo s0 a / p.2*u≤Lo s0 a / p.1:=by
     rw [Int.le_ediv_iff_mul_le (by omega),Int.mul_assoc,Int.mul_comm u p.1,←hu,Int.mul_comm]
     have:=Int.mul_ediv_add_emod (Lo s0 a) p.2
     have:=Int.emod_nonneg (Lo s0 a) (b:=p.2) (by omega)
     omega
    rw [decide_eq_false (by omega),oA,if_neg Bool.false_ne_true]
   unfold forR;rw [step,oA];exact ih fun q hq=>hp q (oY _ hq)
 rw [loop _ fun p hp=>zIQ hp,oA];show ((gd _).bind _)=_
 rw [zFE (by omega),oA]
 have hmap:mapO zAJ (G l.reverse (Lo s0 a))=some ((G l.reverse (Lo s0 a)).map some):=zDQ fun y hy=>by
  have hy:=h.row.mem y (List.mem_reverse.mp (zMl _ _ y hy))
  unfold zAJ;rw [weight_text ⟨by omega,by omega⟩,oA,weight_in ⟨by omega,by omega⟩,if_pos (by omega)]
  rfl
 rw [hmap,oA,zI4,zDZ (zGm _ (by omega)) 9 (by omega)]
 rfl
theorem Rw.take {l:List Int} {s:Int} {k:Nat} (hR:Rw l s k):∀j:Nat,1≤j→j≤k→∃z,Rw (l.take j) z j∧l[j - 1]?=some z:=by
 induction hR with
 |@one s h1 h2=>
  intro j h3 h4
  obtain rfl:j=1:=by omega
  exact ⟨s,.one h1 h2,rfl⟩
 |@more l s t n h0 h1 h2 ih=>
  intro j h3 h4
  have hl:=h0.len
  by_cases hj:j≤n
  ·obtain ⟨z,r,e⟩:=ih j h3 hj
   refine ⟨z,?_,?_⟩
   ·rw [List.take_append_of_le_length (by omega)]
    exact r
   ·rw [oL (by omega)]
    exact e
  ·obtain rfl:j=n+1:=by omega
   refine ⟨s*t,?_,?_⟩
   ·rw [List.take_of_length_le (by rw [oI,oQ];omega)]
    exact .more h0 h1 h2
   ·rw [oN (by omega)]
    have:n+1 - 1 - l.length=0:=by omega
    rw [this];rfl
theorem Rw.chain {l:List Int} {s:Int} {k:Nat} (hR:Rw l s k):(l.zip (l.drop 1)).all mulB=true:=by
 rw [List.all_eq_true];intro p hp
 obtain ⟨i,h1,h2⟩:=zIQ hp
 obtain ⟨_,t,t1,t2,e⟩:=hR.step i _ _ h1 h2
 have hm:=(hR.mem _ (oU h1)).1
 have:p=(p.1,p.2):=rfl
 rw [this,←zHN (by omega),e,Int.mul_ediv_cancel_left _ (by omega),Int.mul_emod_right]
 omega
theorem Rw.isz {l:List Int} {s:Int} {k:Nat} (hR:Rw l s k) (hk:k≤5):zBl l=some true:=by
 have hl:=hR.len
 have hp:=hR.pos
 rw [zNj l (by omega)]
 congr 1
 unfold sizB;obtain ⟨s0,e1,e2,e3,_⟩:=hR.head
 cases l with
 |nil=>simp at e1
 |cons x l=>
  simp at e1
  subst e1;rw [hR.chain,decide_eq_true (by omega),decide_eq_true (by omega)]
  simp only [Bool.and_true,Bool.and_self,Bool.true_and]
  rw [decide_eq_true e2,decide_eq_true e3];rfl
theorem zJZ {l:List Int} {s:Int}:(s,s)∈((l++[s])++[s]).zip (((l++[s])++[s]).drop 1):=by
 refine oU (i:=l.length) (List.getElem?_zip_eq_some.mpr ⟨?_,?_⟩)
 ·rw [oL (by simp),oN (by omega)]
  simp
 ·rw [List.getElem?_drop,oN (by simp;omega)]
  simp [Nat.add_comm]
theorem Rw.nisz {l:List Int} {s:Int} {k:Nat} (hR:Rw l s k) (hk:k≤5):zBl (l++[s])=some false:=by
 have hl:=hR.len
 rw [zNj _ (by rw [oI,oQ];omega)]
 congr 1
 obtain ⟨m,rfl⟩:=hR.last
 have hs:=hR.big.1
 have hbad:((((m++[s])++[s]).zip (((m++[s])++[s]).drop 1)).all mulB)=false:=by
  rw [List.all_eq_false];refine ⟨_,zJZ,?_⟩
  rw [←zHN (by omega),Int.ediv_self (by omega)]
  omega
 unfold sizB;rw [hbad,Bool.and_false,Bool.and_false]
theorem zIt {l:List Int} {s:Int}:cutL (l++[s]) (some (-1)) none=[s]:=by
 unfold cutL;have h1:HT.sIx (l++[s]).length 0 (some (-1))=l.length:=by
  show (if (-1:Int)<0 then ((-1:Int)+((l++[s]).length:Int)).toNat else min (-1:Int).toNat (l++[s]).length)=l.length
  rw [if_pos (by decide),oI,oQ]
  omega
 rw [h1,HT.sIx_none,oI,oQ]
 simp
theorem zI3 {l:List Int} {j:Nat}:l.take j++cutL l (some (j:Int)) (some ((j:Int)+1))=l.take (j+1):=by
 have h:cutL l (some (j:Int)) (some ((j:Int)+1))=(l.drop j).take 1:=by
  have e:((j:Int)+1)=((j+1:Nat):Int):=by omega
  rw [e];unfold cutL;rw [HT.sIx_nat,HT.sIx_nat];by_cases hj:j+1≤l.length
  ·rw [Nat.min_eq_left (by omega),Nat.min_eq_left (by omega)]
   congr 1
   omega
  ·have h9:min j l.length=l.length:=by omega
   rw [List.drop_of_length_le (show l.length≤j by omega),h9,List.drop_of_length_le (Nat.le_refl _),List.take_nil,List.take_nil]
 rw [h,List.take_add]
theorem zL5 {l b:List Int} {s n:Int} {m k:Nat} (hR:Rw l s m) (hm:m≤5) (h1:1≤k) (hk:k≤m) (h:Bok b n) (hn:n+10<2147483648):
  Wp (zAK l (k:Int) (b,l.take k)) fun w=>∃s',w=.nx s'∧s'.2=l.take (k+1)∧Bok s'.1 (n+4):=by
 obtain ⟨z,hz,ez⟩:=hR.take k h1 hk
 have hl:=hR.len
 obtain ⟨s0,e1,e2,e3,_⟩:=hR.head
 have hb:=hz.bound (by omega)
 have hzp:=hz.big.1
 have own0:(l.take k)[0]?=some s0:=by rw [List.getElem?_take_of_lt (by omega)];exact e1
 obtain ⟨own',ho⟩:=hz.last
 unfold zAK;dsimp only;have hlast:pIx (l.take k) (-1)=some z:=by rw [ho];exact zFC
 refine zAx hlast ?_;refine zAw (zIV h (by omega) (m:=40*z+1) (by omega)) fun r4 h4=>?_
 have sk:Sk (l.take k) z s0 r4.1 k:=⟨hz,by omega,own0,h4.1.1,by have:=h4.1.2;omega⟩
 refine zAx (hz.isz (by omega)) ?_
 refine zAx (v:=false) ?_ ?_
 ·rw [Bool.not_true,if_neg Bool.false_ne_true,zHE sk,oA,Bool.not_true,if_neg Bool.false_ne_true]
  have hc:cutL (l.take k) (some (-1)) none=[z]:=by rw [ho];exact zIt
  rw [hc,zJO (by rw [List.length_take,oQ];omega),oA,hz.nisz (by omega)]
  rfl
 rw [if_neg Bool.false_ne_true];refine zAx sk.par ?_;refine zAx (v:=l.take (k+1)) (by
  rw [←zI3];refine zJO ?_;have h6:(cutL l (some (k:Int)) (some ((k:Int)+1))).length≤l.length:=zIu _ _ _
  rw [List.length_take]
  omega) ?_
 have own0':(l.take (k+1))[0]?=some s0:=by rw [List.getElem?_take_of_lt (by omega)];exact e1
 refine zAx (zCT (by omega) own0') ?_
 refine zAx (zCT (by omega) own0') ?_
 refine zAx (zDH (by omega)) ?_
 refine zAx (zCT (by omega) own0') ?_
 refine zAx (zC6 (.inr (by omega))) ?_
 rw [sk.whole];have hslice:(!decide (l.take (k+1)=cutL l none (some ((k:Int)+1))))=false:=by
  have e:((k:Int)+1)=((k+1:Nat):Int):=by omega
  rw [e,zHY,decide_eq_true rfl];rfl
 have fin:∀z':Int,pIx (l.take (k+1)) (-1)=some z'→(Lo s0 r4.1<z'→k<m→zAr (l.take (k+1)) r4.1=some (G (l.take k).reverse (Lo s0 r4.1)))→
   Wp ((pIx (l.take (k+1)) (-1)).bind fun t18=>(if decide (Lo s0 r4.1<t18)=true then
    (if decide ((k:Int)<(l.length:Int))=true then
     (zAr (l.take (k+1)) r4.1).bind fun r19=>some (!decide (r19=G (l.take k).reverse (Lo s0 r4.1)))
    else some false).bind fun z20=>some z20
   else some false).bind fun z21=>if z21=true then some (Fw.rt (false,r4.2)) else if (!decide (l.take (k+1)=cutL l none (some ((k:Int)+1))))=true then some (Fw.rt (false,r4.2)) else some (Fw.nx (r4.2,l.take (k+1))))
    fun w=>∃s',w=Fw.nx s'∧s'.2=l.take (k+1)∧Bok s'.1 (n+4):=fun z' hz' hp=>by
  refine zAx hz' ?_;refine zAx (v:=false) ?_ ?_
  ·by_cases c1:Lo s0 r4.1<z'
   ·rw [if_pos (decide_eq_true c1)]
    by_cases c2:k<m
    ·rw [if_pos (decide_eq_true (by omega)),hp c1 c2,oA,decide_eq_true rfl]
     rfl
    ·rw [if_neg (by simp;omega)]
     rfl
   ·rw [if_neg (by simpa using c1)]
  rw [if_neg Bool.false_ne_true,hslice,if_neg Bool.false_ne_true];exact zAS ⟨_,rfl,rfl,h4.2⟩
 by_cases hkm:k<m
 ·obtain ⟨z',hz',ez'⟩:=hR.take (k+1) (by omega) (by omega)
  have ez':l[k]?=some z':=ez'
  have etk:l.take (k+1)=l.take k++[z']:=by
   rw [List.take_succ,ez'];rfl
  refine fin z' (by rw [etk];exact zFC) fun c1 _=>?_
  have hmono:z≤z':=(hR.step (k - 1) z z' ez (by rw [show k - 1+1=k by omega];exact ez')).1
  have sk':Sk (l.take (k+1)) z' s0 r4.1 (k+1):=⟨hz',by omega,own0',h4.1.1,by have:=h4.1.2;omega⟩
  have hlo:=sk.lo
  rw [sk'.par]
  congr 1
  rw [etk,List.reverse_append];show List.replicate (Lo s0 r4.1 / z').toNat z'++G (l.take k).reverse (Lo s0 r4.1 % z')=_
  rw [Int.ediv_eq_zero_of_lt hlo.1 c1,Int.emod_eq_of_lt hlo.1 c1];rfl
 ·refine fin z ?_ fun _ c2=>absurd c2 hkm
  have e1:l.take (k+1)=l.take k:=by rw [List.take_of_length_le (by omega),List.take_of_length_le (by omega)]
  rw [e1];exact hlast
theorem zKB {l b:List Int} {s n:Int} {m:Nat} (hR:Rw l s m) (hm:m≤5) (h:Bok b n) (hn:n+100<2147483648):Wp (zA3 b l) fun r=>r.1=true∧Bok r.2 (n+40):=by
 have hl:=hR.len
 have hp:=hR.pos
 unfold zA3;refine zAx (v:=l.take 1) (by rw [show (1:Int)=((1:Nat):Int) from rfl,zHY]) ?_
 refine zAx (zLE (by omega)) ?_
 refine zAw (zH5 (I:=fun j s=>s.2=l.take (1+j)∧Bok s.1 (n+4*(j:Int))) ⟨rfl,by simpa using h⟩ ?_) fun w hw=>?_
 ·rintro j x ⟨bx,own⟩ hx ⟨ho,hB⟩
  dsimp only at ho hB
  subst ho;have hj:=(oE.mp hx).1
  rw [zFY] at hj
  obtain ⟨e,_⟩:=zIz hx
  have e2:x=((1+j:Nat):Int):=by omega
  rw [e2];refine zHz (zL5 hR hm (by omega) (by omega) hB (by omega)) fun w ⟨s',q1,q2,q3⟩=>⟨s',q1,?_,?_⟩
  ·rw [q2,show 1+j+1=1+(j+1) by omega]
  ·have:n+4*(j:Int)+4=n+4*((j+1:Nat):Int):=by omega
   rw [←this];exact q3
 ·obtain ⟨⟨bx,own⟩,rfl,ho,hB⟩:=hw
  rw [zFY] at ho hB
  dsimp only at ho hB
  have e:l.take (1+((m:Int)+1 - 1).toNat)=l:=List.take_of_length_le (by omega)
  rw [hl,e] at ho
  rw [hl] at hB
  subst ho;simp only [Fw.on]
  obtain ⟨l',hl'⟩:=hR.last
  have hpop:zJe own=some (s,l'):=by
   unfold zJe;rw [hl',oI,oQ,Nat.add_sub_cancel,oN (Nat.le_refl _),Nat.sub_self]
   simp
  refine zAx hpop ?_;refine zAx (v:=true) ?_ (zAS ⟨rfl,hB.mono (by omega)⟩)
  dsimp only;by_cases hc:l'=[]
  ·rw [decide_eq_true hc,if_pos rfl]
  ·rw [decide_eq_false hc,if_neg Bool.false_ne_true]
   have hlen:l'.length+1=m:=by
    rw [←hl,hl',oI,oQ]
   have h0:l'≠[]:=hc
   have hpos:0<l'.length:=List.length_pos_iff.mpr hc
   obtain ⟨z,hz,ez⟩:=hR.take l'.length (by omega) (by omega)
   have et:own.take l'.length=l':=by rw [hl',List.take_left'];rfl
   rw [et] at hz
   obtain ⟨l2,h2⟩:=hz.last
   have hlast:pIx l' (-1)=some z:=by rw [h2];exact zFC
   obtain ⟨s0,e1,e2,e3,t,e4⟩:=hz.head
   have hzp:=hz.big.1
   have sk:Sk l' z s0 z l'.length:=⟨hz,by omega,e1,by omega,by omega⟩
   rw [hlast,oA,sk.par,oA];have elo:Lo s0 z=z:=by
    unfold Lo;rw [e4,←Int.mul_neg,Int.mul_emod_right];omega
   have eg:G l'.reverse (Lo s0 z)=[z]:=by
    rw [elo,h2,List.reverse_append];show List.replicate (z / z).toNat z++G l2.reverse (z % z)=[z]
    rw [Int.ediv_self (by omega),Int.emod_self,zLn]
    rfl
   have ec:cutL l' (some (-1)) none=[z]:=by rw [h2];exact zIt
   rw [eg,ec,zDZ (zGm [z] (by simp)) 9 (by omega)]
   rfl
theorem hr3x:zHJ 5 (-1) (-1)=some [5,4,3,2,1,0]:=by decide+kernel
theorem zJj {l:List Int} (h:l.length<100000):zBU (l.map eI)=some ((),l.map eI++[eS ("a mark":Str)]):=by
 unfold zBU;rw [show zCj "list" "tuple" ((eL eD) (l.map eI))=some true from zLg,oA,if_pos rfl];have e:∀ys:List Int,forP zAP (ys.map eI) ()=some ():=fun ys=>by
  induction ys with
  |nil=>rfl
  |cons y ys ih=>
   have h3:zBV (eI y)=some (eI y):=by
    unfold zBV;rw [show zCj "list" "tuple" (eI y)=some false from zLh,oA,if_neg Bool.false_ne_true,show pIsi "list" (eI y)=some false from zLd];rfl
   show (zAP (eI y) ()).bind _=_
   unfold zAP;rw [h3];exact ih
 rw [e,oA,oA,show pIsi "list" ((eL eD) (l.map eI))=some true from zIh,oA,if_pos rfl,zLm (by rw [oJ];exact h)]
 rfl
theorem eLD (l:List PyData):(eL eD) l=PyData.list l:=by
 show PyData.list (l.map eD)=_
 rw [show (eD:PyData→PyData)=fun d=>d from rfl,List.map_id']
theorem zJl {α σ τ:Type} {f:α→σ→Option (τ×σ)} (Q:τ→Prop) (I:Nat→σ→Prop):∀{xs:List α} {s:σ} {n:Nat},I n s→(∀x s (j:Nat),x∈xs→j<n+xs.length→I j s→Wp (f x s) fun r=>Q r.1∧I (j+1) r.2)→Wp (mapS f xs s) fun r=>(r.1.length=xs.length∧∀y∈r.1,Q y)∧I (n+xs.length) r.2
 |[],s,n,h,_=>⟨([],s),rfl,⟨rfl,by simp⟩,h⟩
 |x::xs,s,n,h,hb=>by
  have h1:=hb x s n OD (by simp) h
  obtain ⟨r,e1,q,i⟩:=h1
  obtain ⟨r2,e2,⟨l2,q2⟩,i2⟩:=zJl Q I (xs:=xs) (s:=r.2) (n:=n+1) i fun y s j hy hj hi=>hb y s j (oY _ hy) (by rw [OC];omega) hi
  refine ⟨(r.1::r2.1,r2.2),?_,⟨by simp [l2],fun y hy=>?_⟩,?_⟩
  ·show ((f x s).bind _)=_
   rw [e1,oA,e2];rfl
  ·rcases OB.mp hy with rfl|hy
   ·exact q
   ·exact q2 y hy
  ·rw [OC,show n+(xs.length+1)=n+1+xs.length by omega]
   exact i2
structure AskOk (rows:List (List Int)) (p:Int×Int):Prop where
 ex:∃l s s0 k,pIx rows p.1=some l∧Sk l s s0 p.2 k
theorem AskOk.par {rows:List (List Int)} {p:Int×Int} (h:AskOk rows p):∃l g,pIx rows p.1=some l∧zAr l p.2=some g∧g.length≤205:=by
 obtain ⟨l,s,s0,k,e,sk⟩:=h.ex
 exact ⟨l,_,e,sk.par,sk.len⟩
theorem zLJ {α:Type} {a b:α} {y:Int} (h:0≤y):pIx [a,b] (y % 2)=some (if y % 2=0 then a else b):=by
 have h1:=Int.emod_nonneg y (b:=2) (by omega)
 have h2:=Int.emod_lt_of_pos y (b:=2) (by omega)
 by_cases hy:y % 2=0
 ·rw [hy]
  rfl
 ·have:y % 2=1:=by omega
  rw [this];rfl
theorem zKd {b:List Int} (h:Bok b 0):Wp (zDo b) fun r=>r.1=true:=by
 unfold zDo;refine zAw (zIa h (by omega)) fun r1 h1=>?_
 refine zAw (zIa h1.2 (by omega)) fun r2 h2=>?_
 obtain ⟨⟨z1,k1,R1,b1⟩,_⟩:=h1
 obtain ⟨⟨z2,k2,R2,b2⟩,B2⟩:=h2
 refine zEz ?_;refine zAx (zIb (by omega)) ?_
 refine zAx (zFE (by rw [zBD];decide)) ?_
 have rowOk:∀y:Int,0≤y→∃l s k,pIx [r1.1,r2.1] (y % 2)=some l∧Rw l s k∧k≤5:=fun y hy=>by
  rw [zLJ hy];split
  ·exact ⟨_,_,_,rfl,R1,b1⟩
  ·exact ⟨_,_,_,rfl,R2,b2⟩
 refine zAw (zJl (fun p=>AskOk [r1.1,r2.1] p) (fun j s=>Bok s (0+12+12+4*(j:Int))) (n:=0) (by simpa using B2) ?_) fun l9 h9=>?_
 ·intro y s j hy hj hB
  have hy:=zFZ hy
  rw [Nat.zero_add,zBD] at hj
  obtain ⟨l,z,k,e,hR,hk⟩:=rowOk y hy.1
  have hz:=hR.bound hk
  have hzp:=hR.big.1
  obtain ⟨l',hl'⟩:=hR.last
  obtain ⟨s0,e1,_⟩:=hR.head
  unfold zBT;refine zAx e ?_;refine zAx (v:=z) (by rw [hl'];exact zFC) ?_
  refine zAw (zIV hB (by omega) (m:=40*z+1) (by omega)) fun r8 h8=>zAS ⟨⟨l,z,s0,k,e,hR,hk,e1,h8.1.1,by have:=h8.1.2;dsimp only;omega⟩,?_⟩
  have:=h8.2
  have e3:(0:Int)+12+12+4*(j:Int)+4=0+12+12+4*((j+1:Nat):Int):=by omega
  rw [←e3];exact this
 obtain ⟨⟨l9l,l9a⟩,B9⟩:=h9
 rw [zBD] at l9l B9
 have l9l:l9.1.length=6:=l9l
 refine zAx (zFE (by omega)) ?_
 have hpar:∀p:Int×Int,p∈l9.1→∃g,zAR [r1.1,r2.1] p=some g∧g.length≤205:=fun p hp=>by
  obtain ⟨l,g,e1,e2,e3⟩:=(l9a p hp).par
  refine ⟨g,?_,e3⟩
  unfold zAR;rw [e1,oA,e2];rfl
 obtain ⟨gf,hgf⟩:∃gf:Int×Int→List Int,∀p∈l9.1,zAR [r1.1,r2.1] p=some (gf p)∧(gf p).length≤205:=by
  refine ⟨fun p=>(zAR [r1.1,r2.1] p).getD [],fun p hp=>?_⟩
  obtain ⟨g,e1,e2⟩:=hpar p hp
  dsimp only;rw [e1];exact ⟨rfl,e2⟩
 refine zAx (zDQ fun p hp=>(hgf p hp).1) ?_;have hsm:Sm 2 ((eL (eL eI)) (l9.1.map gf)):=.lst (by rw [oJ,oJ,l9l];decide) fun d hd=>by
  obtain ⟨g,hg,rfl⟩:=oW.mp hd
  obtain ⟨p,hp,rfl⟩:=oW.mp hg
  exact zGm _ (by have:=(hgf p hp).2;omega)
 refine zAx (zJL hsm 9 (by omega)) ?_
 refine zAx hr3x ?_;refine zAw (zH5 (I:=fun _ _=>True) trivial ?_) fun w hw=>?_
 ·rintro j x s hx -
  have hx':0≤x∧x<6:=by
   have:=oU hx
   simp at this
   omega
  obtain ⟨p,hp⟩:∃p,l9.1[x.toNat]?=some p:=⟨_,oF (by omega)⟩
  have hpm:=oU hp
  obtain ⟨l,g,e1,e2,e3⟩:=(l9a p hpm).par
  have hg:gf p=g:=by
   have h5:=(hgf p hpm).1
   unfold zAR at h5;rw [e1,oA,e2,oA] at h5
   exact (oG h5).symm
  unfold zCp;refine zAx (zCT (by omega) hp) ?_
  refine zAx e1 ?_;refine zAx e2 ?_;refine zEz ?_;have hk:pIxD ((eL (eL eI)) (l9.1.map gf)) x=some ((eL eI) g):=by
   show pIx ((l9.1.map gf).map (eL eI)) x=_
   refine zCT (by omega) ?_
   rw [oO,oO,hp];show some ((eL eI) (gf p))=_
   rw [hg]
  refine zAx hk ?_;have es:(eL eD) (g.map eI)=(eL eI) g:=eLD _
  rw [es];refine zAx (zDZ (zGm g (by omega)) 9 (by omega)) ?_
  refine zAx (v:=false) ?_ ?_
  ·rw [Bool.not_true,if_neg Bool.false_ne_true,zDZ hsm 9 (by omega)]
   rfl
  rw [if_neg Bool.false_ne_true,zJj (by omega)]
  exact zAS ⟨(),rfl,trivial⟩
 obtain ⟨_,rfl,_⟩:=hw
 rw [Fw.on];refine zAx (zFE (by simp)) ?_
 refine zAw (zJl (fun t=>t=true) (fun j s=>Bok s (0+12+12+4*6+40*(j:Int))) (n:=0) ?_ ?_) fun l29 h29=>?_
 ·exact B9.mono (by omega)
 ·intro y s j hy hj hB
  rw [Nat.zero_add] at hj
  have hj:j<2:=hj
  unfold zBS
  have:∃z k,Rw y z k∧k≤5:=by
   rcases OB.mp hy with rfl|hy
   ·exact ⟨_,_,R1,b1⟩
   ·rw [oX] at hy
    subst hy;exact ⟨_,_,R2,b2⟩
  obtain ⟨z,k,hR,hk⟩:=this
  refine zAw (zKB hR hk hB (by omega)) fun r28 h28=>zAS ⟨h28.1,?_⟩
  have e3:(0:Int)+12+12+4*6+40*(j:Int)+40=0+12+12+4*6+40*((j+1:Nat):Int):=by omega
  rw [←e3];exact h28.2
 ·exact zAS (zDn h29.1.2)
theorem law_P (ns:List Int) (h63:ns.length≤63):zJY ns=some true:=by
 suffices h:Wp (zJY ns) fun r=>r=true by
  obtain ⟨r,e,rfl⟩:=h
  exact e
 unfold zJY;refine zAw (zJD ns h63 6 (by omega)) fun cs hc=>?_
 refine zAx (zIb (by unfold maxI;split<;>omega)) ?_
 refine zAw (wp_gd (by rw [zBD];unfold maxI;split<;>omega) (Q:=fun _=>True) trivial) fun _ _=>?_
 refine zAw (R:=fun l=>∀b∈l,b=true) ?_ fun l hl=>zAS (zDn hl)
 refine zHz (zJm (fun b=>b=true) fun x hx=>?_) fun l hl=>hl.2
 have hx:=zFZ hx
 unfold zEZ;refine zAw (zNt cs x hx.1) fun b hb=>?_;exact zAw (zKd hb) fun r hr=>zAS hr
theorem zKt (ns:List Int) (h63:ns.length≤63):∃outs,zIj [.scr ns]=some (.dat (.bool true),outs):=by
 rw [q_law,law_P ns h63];exact ⟨_,rfl⟩
end Lw
namespace Lw
open PySem PySem.Spec PyProof.Rows L2 Cm
theorem facts {P:Program} {w:World} {K:oB} {h:Heap} {mg:Str→Option Value} {f:Addr} (X:K.In h) (G:h.Ns mainGlobals mg) (hfa:mg ("law":Str)=some (.ref f)) (cX:Cm.SaysX fa fn dsC kdC w K):
  ∃fd:FuncData,(∀(s:Shared) (v:Value),BindsTo s fd ⟨[v],[]⟩ [("_law_script",v)])∧∀base:Heap,K.In base→base.Ns mainGlobals mg→FnOk P w K mg base CX0 14 f fd ["_law_script"] (spLaw K):=by
 have c:=cX.d
 obtain ⟨f0,F0⟩:=c.def_ 0 (d:=zF9) rfl
 obtain ⟨f1,F1⟩:=c.def_ 1 (d:=zJK) rfl
 obtain ⟨f2,F2⟩:=c.def_ 2 (d:=zIr) rfl
 obtain ⟨f3,F3⟩:=c.def_ 3 (d:=zHm) rfl
 obtain ⟨f4,F4⟩:=c.def_ 4 (d:=zIq) rfl
 obtain ⟨f5,F5⟩:=c.def_ 5 (d:=zEJ) rfl
 obtain ⟨f6,F6⟩:=c.def_ 6 (d:=zGa) rfl
 obtain ⟨f7,F7⟩:=c.def_ 7 (d:=zIs) rfl
 obtain ⟨f8,F8⟩:=c.def_ 8 (d:=zF8) rfl
 obtain ⟨f9,F9⟩:=c.def_ 9 (d:=zDI) rfl
 obtain ⟨f10,F10⟩:=c.def_ 10 (d:=zDK) rfl
 obtain ⟨f11,F11⟩:=c.def_ 11 (d:=zGd) rfl
 obtain ⟨f12,F12⟩:=c.def_ 12 (d:=zGb) rfl
 obtain ⟨f13,F13⟩:=c.def_ 13 (d:=zEI) rfl
 obtain ⟨f14,F14⟩:=c.def_ 14 (d:=zEk) rfl
 obtain ⟨f15,F15⟩:=c.def_ 15 (d:=zDJ) rfl
 obtain ⟨f16,F16⟩:=c.def_ 16 (d:=zGc) rfl
 obtain ⟨f17,F17⟩:=c.def_ 17 (d:=zFG) rfl
 obtain ⟨f18,F18⟩:=c.def_ 18 (d:=zDj) rfl
 obtain ⟨f19,F19⟩:=c.def_ 19 (d:=zDk) rfl
 obtain ⟨f20,F20⟩:=c.def_ 20 (d:=zHn) rfl
 obtain ⟨f21,F21⟩:=c.def_ 21 (d:=zNq) rfl
 have e:=hfa.symm.trans (He.glo_ok X G (c.fact 21 (f:=.glo "law") rfl))
 cases e
 have b:=FunD.bindsA (ps:=["_law_script"]) F21 fun _ _ _ _ _ _ us hl=>match us,hl with|[_],_=>rfl
 have T:Tx w K mg (fun k=>([f0,f1,f2,f3,f4,f5,f6,f7,f8,f9,f10,f11,f12,f13,f14,f15,f16,f17,f18,f19,f20,f21]:List FuncData).getD k f0):=⟨F0,He.glo_ok X G (c.fact 0 (f:=.glo "_law_folded") rfl),F1,He.glo_ok X G (c.fact 1 (f:=.glo "_law_box") rfl),F2,He.glo_ok X G (c.fact 2 (f:=.glo "_law_take") rfl),F3,He.glo_ok X G (c.fact 3 (f:=.glo "_law_sizes") rfl),F4,He.glo_ok X G (c.fact 4 (f:=.glo "_law_wide") rfl),F5,He.glo_ok X G (c.fact 5 (f:=.glo "parcels_of") rfl),F6,He.glo_ok X G (c.fact 6 (f:=.glo "_law_copied") rfl),F7,He.glo_ok X G (c.fact 7 (f:=.glo "_law_same") rfl),F8,He.glo_ok X G (c.fact 8 (f:=.glo "_law_marked") rfl),F9,He.glo_ok X G (c.fact 9 (f:=.glo "whole_number") rfl),F10,He.glo_ok X G (c.fact 10 (f:=.glo "follows_size") rfl),F11,He.glo_ok X G (c.fact 11 (f:=.glo "is_sizes") rfl),F12,He.glo_ok X G (c.fact 12 (f:=.glo "units_of") rfl),F13,He.glo_ok X G (c.fact 13 (f:=.glo "units_text") rfl),F14,He.glo_ok X G (c.fact 14 (f:=.glo "weight_text") rfl),F15,He.glo_ok X G (c.fact 15 (f:=.glo "plain_number") rfl),F16,He.glo_ok X G (c.fact 16 (f:=.glo "units_in") rfl),F17,He.glo_ok X G (c.fact 17 (f:=.glo "weight_in") rfl),F18,He.glo_ok X G (c.fact 18 (f:=.glo "_law_sacks_right") rfl),F19,He.glo_ok X G (c.fact 19 (f:=.glo "_law_grown_right") rfl),F20,He.glo_ok X G (c.fact 20 (f:=.glo "_law_right") rfl),F21,He.glo_ok X G (c.fact 21 (f:=.glo "law") rfl),He.free_ok X G (c.fact 22 (f:=.free "abs") rfl),He.free_ok X G (c.fact 23 (f:=.free "all") rfl),He.free_ok X G (c.fact 24 (f:=.free "bool") rfl),He.free_ok X G (c.fact 25 (f:=.free "enumerate") rfl),He.free_ok X G (c.fact 26 (f:=.free "int") rfl),He.free_ok X G (c.fact 27 (f:=.free "isinstance") rfl),He.free_ok X G (c.fact 28 (f:=.free "len") rfl),He.free_ok X G (c.fact 29 (f:=.free "list") rfl),He.free_ok X G (c.fact 30 (f:=.free "max") rfl),He.free_ok X G (c.fact 31 (f:=.free "range") rfl),He.free_ok X G (c.fact 32 (f:=.free "reversed") rfl),He.free_ok X G (c.fact 33 (f:=.free "str") rfl),He.free_ok X G (c.fact 34 (f:=.free "sum") rfl),He.free_ok X G (c.fact 35 (f:=.free "tuple") rfl),He.free_ok X G (c.fact 36 (f:=.free "zip") rfl),He.str_ok X G (c.fact 37 (f:=.str "FIGURES" "0123456789") rfl),He.int_ok X G (c.fact 38 (f:=.int "LEAST_TIMES" 2) rfl),He.int_ok X G (c.fact 39 (f:=.int "MOST_FIGURES" 9) rfl),He.int_ok X G (c.fact 40 (f:=.int "MOST_FIRST" 100) rfl),He.int_ok X G (c.fact 41 (f:=.int "MOST_SIZES" 5) rfl),He.int_ok X G (c.fact 42 (f:=.int "MOST_TIMES" 12) rfl),⟨He.glo_ok X G (c.fact 43 (f:=.glo "WEIGHT_UNITS") rfl),fun H=>cX.dat 0 (p:=("WEIGHT_UNITS",c_at)) rfl H⟩⟩
 exact ⟨_,fun s v=>b s [v] rfl,fun base _ _=>(zMY T).imp (zLV zKt)⟩
end Lw
open PySem PySem.W PySem.Calls PyProof.Rows
set_option maxHeartbeats 0 in
theorem PySem.Challenge.cw_campcarry_k08_whole_measures_and_sizes_holds : PySem.Challenge.rw_campcarry_k08_whole_measures_and_sizes.Holds := by
 w_on;o_law
 refine HandSHeadRun.head_any (r:=OpenLaw.row PySem.Challenge.rw_campcarry_k08_whole_measures_and_sizes) (q:=view (OpenLaw.row PySem.Challenge.rw_campcarry_k08_whole_measures_and_sizes).prog [31]) (H:=Lw.hk) (ob:=Lw.ob) (M:=3000) (loose:=("MOST_SIZES"::"MOST_FIRST"::"LEAST_TIMES"::"MOST_TIMES"::"whole_number"::"follows_size"::"is_sizes"::"parcels_of"::"units_of"::"FIGURES"::"MOST_FIGURES"::"WEIGHT_UNITS"::"plain_number"::"units_text"::"units_in"::"weight_text"::"weight_in"::"_law_box"::"_law_take"::"_law_folded"::"_law_wide"::"_law_same"::"_law_copied"::"_law_marked"::"_law_sizes"::"_law_sacks_right"::"_law_grown_right"::"_law_right"::([]:List PySem.Str))) (d:=HandSHeadRun.topDef (OpenLaw.row PySem.Challenge.rw_campcarry_k08_whole_measures_and_sizes).prog 31) (kwd:=[]) Lw.ob_eq
  (by kernel_rfl) (fun s=>by kernel_rfl) Lw.run (by kernel_rfl) (by kernel_rfl) (by kernel_rfl) (by rfl) (by first|assumption|decide+kernel) (by decide+kernel) ⟨rfl,rfl,rfl,rfl,rfl,by decide+kernel⟩ ?hw ?hc
 case hw=>w_witness2
 case hc=>
  refine L2.walk_ofE (l:=PySem.Challenge.rw_campcarry_k08_whole_measures_and_sizes) (n:=63) (k:=14) (x:="_law_script") (CX:=L2.CX0) rfl (by decide) (by kernel_rfl) ⟨rfl,by decide,by decide⟩ ?F (fun _ _ _ _ z=>z)
  intro w mg fa h Y G hmg0
  obtain ⟨K,KX,c⟩:=Y
  have hmg:mg ("law":PySem.Str)=some (.ref fa):=by
   have e:(HandSHeadRun.topDef (OpenLaw.row PySem.Challenge.rw_campcarry_k08_whole_measures_and_sizes).prog 31).name=("law":PySem.Str):=by kernel_rfl
   rw [←e];exact hmg0
  obtain ⟨fd,hb,hF⟩:=Lw.facts (P:=(PySem.Challenge.rw_campcarry_k08_whole_measures_and_sizes).prog) (w:=w) KX G hmg c
  exact ⟨K,fd,Cm.spLaw K,KX,hb,fun H a ns hl _ hS=>⟨a,ns,rfl,hS,hl,fun _=>rfl⟩,hF⟩
