import PyProof.Rows.All
import Wide.All
import OpenK.AllK
import Wide.FinOn
import HandS.ForMost
import HandS.ForExc
import HandS.Walk
import HandS.IsInst
import HandS.Nested
import HandS.CallSlots
import HandS.Dict
import HandS.DictTup
import KE.KDictKeyed
import HandS.TupAny
import HandS.TupMul
import HandS.Deep
import HandS.Star
import HandS.Flow
import HandS.Style
import HandS.Wide
import HandS.Text
import HandS.Defaults
import HandS.MakeKw
import KE.KExcSuper
import KE.KExcInit
import HandS.ExcInit
import HandS.ExcIs
import HandS.ExcField
import HandS.EndTab
import HandS.HeadHook4
import HandS.HeadEnd
import HandS.Words
import HandS.WordsExc
import HandS.EndBits
import HandS.Head2
import HandS.Lambda
import KE.KNestM
import HandS.ExcValue
import KE.KTryMore
import KE.SortData
import KE.LtData
import HandS.Zip
import HandS.Iter
import KE.GoesEnum
import KE.GoesMore
import HandS.DictComp
import HandS.SetKeys
import HandS.ListItems
import HandS.Conv
import KE.KDictItemsList
import HandS.TupLen
import KE.KDictCopyH
import HandS.TupSets
import HandS.SetFor
import HandS.FStr
import HandS.RaiseMore
import HandS.Codes
import PyProof.ReprLen
import PySem.Challenge.RW_labelroads_k83_texts_of_parcels_refused
import PyProof.FactsAll.dict
import PyProof.NeKinds
import PyProof.P3In
import KE.DataMinMax
import HandS.Strs
import PyProof.AssignAttr
import HandS.List
import KE.KDictPairs
import HandS.TryOnly
set_option Elab.async false
set_option linter.all false
set_option maxRecDepth 100000
set_option maxHeartbeats 0
namespace L2
open PySem PySem.W PySem.Calls PySem.Spec PyProof.Rows
mutual
inductive NKv (H:Hp):NestedKey→V→Prop
 | non:NKv H .none .non
 | int (i:Int):NKv H (.num i) (.int i)
 | str (x:Str):NKv H (.text x) (.str x)
 | tup {a:Addr}{vs:List V}{ks:List NestedKey}:H a=some (.tup vs)→NKvs H ks vs→NKv H (.tup ks) (.ref a)
inductive NKvs (H:Hp):List NestedKey→List V→Prop
 | nil:NKvs H [] []
 | cons {k:NestedKey}{v:V}{ks:List NestedKey}{vs:List V}:NKv H k v→NKvs H ks vs→NKvs H (k::ks) (v::vs)
end
section
variable {H H':Hp}
mutual
theorem NKv.mono (e:∀a xs,H a=some (.tup xs)→H' a=some (.tup xs)):∀{k:NestedKey}{v:V},NKv H k v→NKv H' k v
 | _,_,.non=> .non
 | _,_,.int i=> .int i
 | _,_,.str x=> .str x
 | _,_,.tup h r=> .tup (e _ _ h) (NKvs.mono e r)
theorem NKvs.mono (e:∀a xs,H a=some (.tup xs)→H' a=some (.tup xs)):∀{ks:List NestedKey}{vs:List V},NKvs H ks vs→NKvs H' ks vs
 | _,_,.nil=> .nil
 | _,_,.cons a r=> .cons (NKv.mono e a) (NKvs.mono e r)
end
variable {P:Program}{w:World}{h:Heap}
mutual
theorem NKv.is (ok:HOk P w H h):∀{k:NestedKey}{v:V}{u:Value},NKv H k v→RelV v u→NestedIs h k u
 | _,_,u,.non,r=>by
  obtain rfl:u=Value.none:=r
  exact .none
 | _,_,u,.int i,r=>by
  obtain ⟨t,rfl⟩:=(show ∃t,u=Value.int i t from r)
  exact .int i t
 | _,_,u,.str x,r=>by
  obtain ⟨t,rfl⟩:=(show ∃t,u=Value.str x t from r)
  exact .text x t
 | _,_,u,.tup (a:=a) (vs:=vs) e q,r=>by
  obtain rfl:u=Value.ref a:=r
  obtain ⟨_,its,rr,o,h1,h2,n,h3⟩:=(show ObjOk P w H h a (.tup vs) from ok a _ e)
  exact .tup h1 h2 h3 (by rw [List.toList_toArray];exact NKvs.is ok q rr)
theorem NKvs.is (ok:HOk P w H h):∀{ks:List NestedKey}{vs:List V}{us:List Value},NKvs H ks vs→Vals vs us→NestedAll h ks us
 | _,_,_,.nil,.nil=> .nil
 | _,_,_,.cons a q,.cons r rr=> .cons (NKv.is ok a r) (NKvs.is ok q rr)
end
end
abbrev nM:=NestedKey×Addr×V
def KN:List nM→List (NestedKey×Addr×Value)→Prop:=Paired fun p q=>p.1=q.1∧p.2.1=q.2.1∧RelV p.2.2 q.2.2
def nkO (w:World) (a:Addr) (kvs:List nM):HO:= .ext fun h=>kvs.length≤sizeLine∧(a==sysModules)=false∧∃xs:List (NestedKey×Addr×Value),KN kvs xs ∧
 ∃o es ep,h.get? a=some o∧o.ExactDict∧o.data = .dict es ep∧es.toList=xs.map (fun x=>(⟨x.1.hash w,.ref x.2.1,x.2.2⟩:DictEntry))∧(xs.map (·.1)).Nodup
def Y7 (H:Hp) (kvs:List nM):Prop:=∀x∈kvs,NKv H x.1 (.ref x.2.1)∧x.1.depth≤8
theorem Y7.mono {H H':Hp}(e:∀a xs,H a=some (.tup xs)→H' a=some (.tup xs)) {kvs:List nM}(h:Y7 H kvs):Y7 H' kvs:=fun x hx=>⟨(h x hx).1.mono e,(h x hx).2⟩
def vK (kvs:List nM) (k:NestedKey):Option V:=(kvs.find? fun x=>decide (x.1=k)).map (·.2.2)
def JW (kvs:List nM) (k:NestedKey) (b:Addr) (v:V):List nM:=if (vK kvs k).isSome then kvs.map (fun x=>if x.1=k then (x.1,x.2.1,v) else x) else kvs++[(k,b,v)]
theorem Y7.put {H:Hp}{kvs:List nM}(h:Y7 H kvs) {k:NestedKey}{b:Addr}(v:V) (hk:NKv H k (.ref b)) (hd:k.depth≤8):Y7 H (JW kvs k b v):=fun x hx=>by
 unfold JW at hx
 split at hx
 ·obtain ⟨y,hy,rfl⟩:=List.mem_map.mp hx
  split
  ·exact h y hy
  ·exact h y hy
 ·rcases List.mem_append.mp hx with hx | hx
  ·exact h x hx
  ·obtain rfl:=List.mem_singleton.mp hx
   exact ⟨hk,hd⟩
theorem KN.val {kvs:List nM}{xs:List (NestedKey×Addr×Value)}(r:KN kvs xs) (k:NestedKey):RelO (vK kvs k) ((atKey xs k).map (·.2)):=by
 induction r with
 | nil=>exact True.intro
 | @cons p q ps qs h t ih=>
  by_cases e:p.1=k
  ·have e2:q.1=k:=h.1.symm.trans e
   have z:RelO (some p.2.2) (some q.2.2):=h.2.2
   simpa [vK,atKey,e,e2] using z
  ·have e2:¬q.1=k:=fun z=>e (h.1.trans z)
   simpa [vK,atKey,e,e2] using ih
theorem KN.repl {kvs:List nM}{xs:List (NestedKey×Addr×Value)}(r:KN kvs xs) (k:NestedKey) {y:V}{u:Value}(ry:RelV y u):KN (kvs.map fun x=>if x.1=k then (x.1,x.2.1,y) else x) (xs.map (putAt k u)):=by
 induction r with
 | nil=>exact .nil
 | @cons p q ps qs h t ih=>
  rw [List.map_cons,List.map_cons]
  refine .cons ?_ ih
  unfold putAt
  by_cases e:p.1=k
  ·have e2:q.1=k:=h.1.symm.trans e
   rw [if_pos e,if_pos e2]
   exact ⟨h.1,h.2.1,ry⟩
  ·have e2:¬q.1=k:=fun z=>e (h.1.trans z)
   rw [if_neg e,if_neg e2]
   exact h
theorem KN.app {kvs ms:List nM}{xs ys:List (NestedKey×Addr×Value)}(r:KN kvs xs) (q:KN ms ys):KN (kvs++ms) (xs++ys):=by
 induction r with
 | nil=>exact q
 | cons h t ih=>exact .cons h ih
theorem KN.put {kvs:List nM}{xs:List (NestedKey×Addr×Value)}(r:KN kvs xs) (k:NestedKey) (b:Addr) {y:V}{u:Value}(ry:RelV y u):KN (JW kvs k b y) (storedH xs k b u):=by
 have q:=(r.val k).isSome_eq
 rw [Option.isSome_map] at q
 unfold JW storedH
 rw [q]
 split
 ·exact r.repl k ry
 ·exact r.app (.cons ⟨rfl,rfl,ry⟩ .nil)
section
variable {P:Program}{w:World}{H:Hp}{h:Heap}{a:Addr}{kvs:List nM}
theorem KN.all {ks:List nM}{xs:List (NestedKey×Addr×Value)}(ok:HOk P w H h) (r:KN ks xs) (hk:Y7 H ks):∀x∈xs,(nestedKind P w).is h x.1 x.2.1:=by
 induction r with
 | nil=>intro x hx;exact nomatch hx
 | @cons p q ps qs hq t ih=>
  intro x hx
  rcases List.mem_cons.mp hx with e | hx
  ·subst e
   obtain ⟨h1,h2⟩:=hk p List.mem_cons_self
   rw [←hq.1,←hq.2.1]
   exact ⟨h1.is ok rfl,h2⟩
  ·exact ih (fun y hy=>hk y (List.mem_cons_of_mem _ hy)) x hx
end
end L2
namespace PV
open PySem L2
inductive D where
 | non | bl (b:Bool) | int (i:Int) | str (s:Str)
 | lst (xs:List D) | tup (xs:List D)
 | qb (xs:List D)
 | dct (kvs:List (D×D))
 | Ei (kvs:List (Key×D))
 | DG (kvs:List (List Key×D))
 | dtn (kvs:List (NestedKey×D))
 | exc (C:Addr) (fs:List (Str×D))
 | raw (v:V)
 | scr (ns:List Int)
 | sref (i:Nat)
inductive Th where
 | ins (C:Addr) (fs:List (Str×D))
 | dT (kvs:List (List Key×D))
 | dK (kvs:List (Key×D))
 | lst (ds:List D)
 | lT (kvs:List (List Key×D))
 | lK (kvs:List (Key×D))
structure DS where
 cells:List Int
 great:List Int
 spot:Int
 at_:Option Addr
 objs:List Th:=[]
inductive Res (α:Type) where
 | ok (a:α) (s:DS)
 | exc (C:Addr) (fs:List (Str×D)) (s:DS)
 | stuck
abbrev M (α:Type):=DS→Res α
@[reducible] def ret {α:Type}(a:α):M α:=fun s=> .ok a s
def bnd {α β:Type}(m:M α) (f:α→M β):M β:=fun s=>match m s with
 | .ok a s'=>f a s'
 | .exc C fs s'=> .exc C fs s'
 | .stuck=> .stuck
@[reducible] def stk {α:Type}:M α:=fun _=> .stuck
@[reducible] def thr {α:Type}(C:Addr) (fs:List (Str×D)):M α:=fun s=> .exc C fs s
theorem aP {α β:Type}{m:M α}{f:α→M β}{s s':DS}{a:α}(h:m s = .ok a s'):bnd m f s=f a s':=by unfold bnd;rw [h]
theorem Af {α β:Type}{a:α}{f:α→M β}:bnd (ret a) f=f a:=rfl
theorem aC {α β:Type}{m:M α}{f:α→M β}{s s':DS}{C:Addr}{fs:List (Str×D)}(h:m s = .exc C fs s'):bnd m f s = .exc C fs s':=by unfold bnd;rw [h]
theorem aO {α β:Type}{m:M α}{f:α→M β}{s:DS}(h:m s = .stuck):bnd m f s = .stuck:=by unfold bnd;rw [h]
theorem pF {α β γ:Type}{m:M α}{f:α→M β}{g:β→M γ}:bnd (bnd m f) g=bnd m fun a=>bnd (f a) g:=by
 funext s
 unfold bnd
 cases m s<;>rfl
def _root_.L2.HO.Yk:HO→Bool
 | .tup _=>true
 | _=>false
def mD (i:Nat):HO:= .rng (i:Int) (i:Int)
def _root_.L2.HO.gh:HO→Bool
 | .rng _ _=>true
 | _=>false
theorem yI {i j:Nat}(h:mD i=mD j):i=j:=by
 unfold mD at h
 injection h with h1 _
 omega
def xlo (a C:Addr) (od:Option Addr):HO:= .ext fun h=>∃fv sl,h.get? a=some ({ cls:= .ref C,dict:=od,data:= .fields fv,slots:=sl}:Obj)
def XD (H:Hp) (od:Option Addr) (fs:List (Str×V)):Prop:=match od with
 | none=>fs=[]
 | some dx=>H dx=some (.xd fs)
mutual
inductive Dv (K:PySem.W.Frag) (H:Hp):V→D→Prop
 | non:Dv K H .non .non
 | bl (b:Bool):Dv K H (.bl b) (.bl b)
 | int (i:Int):Dv K H (.int i) (.int i)
 | str (x:Str):Dv K H (.str x) (.str x)
 | lst {a:Addr}{xs:List V}{ds:List D}:H a=some (.lst xs)→DvL K H xs ds→Dv K H (.ref a) (.lst ds)
 | tup {a:Addr}{xs:List V}{ds:List D}:H a=some (.tup xs)→DvL K H xs ds→Dv K H (.ref a) (.tup ds)
 | qb {a:Addr}{o:Obj}{xs:List V}{ds:List D}:H a=some (.frz o (.tup xs))→o.dict=none→DvL K H xs ds→Dv K H (.ref a) (.qb ds)
 | dcE {a:Addr}:H a=some (.dK [])→Dv K H (.ref a) (.dct [])
 | dcK {a:Addr}{od:Obj}{ks:List Key}{vs:List V}{ds:List D}:H a=some (.frz od (.dK (ks.zip vs)))→ks.length=vs.length→DvL K H vs ds→Dv K H (.ref a) (.Ei (ks.zip ds))
 | dcT {a:Addr}{od:Obj}{ks:List (List Key)}{vs:List V}{ds:List D}:H a=some (.frz od (.dT (ks.zip vs)))→ks.length=vs.length→DvL K H vs ds→Dv K H (.ref a) (.DG (ks.zip ds))
 | dcN {a:Addr}{od:Obj}{w:World}{es:List nM}{ds:List D}:H a=some (.frz od (nkO w a es))→Y7 H es→DvL K H (es.map (·.2.2)) ds→Dv K H (.ref a) (.dtn ((es.map (·.1)).zip ds))
 | raw (v:V):Dv K H v (.raw v)
 | scr {a:Addr}{ns:List Int}:SqL K H a (ns.map V.int)→Dv K H (.ref a) (.scr ns)
 | sref {a:Addr}{i:Nat}:H a=some (mD i)→Dv K H (.ref a) (.sref i)
 | exc {a C:Addr}{od:Option Addr}{ns:List Str}{vs:List V}{ds:List D}:H a=some (xlo a C od)→XD H od (ns.zip vs)→ns.length=vs.length→DvL K H vs ds→Dv K H (.ref a) (.exc C (ns.zip ds))
inductive DvL (K:PySem.W.Frag) (H:Hp):List V→List D→Prop
 | nil:DvL K H [] []
 | cons {v:V}{vs:List V}{d:D}{ds:List D}:Dv K H v d→DvL K H vs ds→DvL K H (v::vs) (d::ds)
end
section
variable {K:PySem.W.Frag}{H H':Hp}
def Sub (H H':Hp):Prop:=∀a o,H a=some o→H' a=some o
theorem Sub.refl (H:Hp):Sub H H:=fun _ _ h=>h
theorem Sub.trans {H1 H2 H3:Hp}(a:Sub H1 H2) (b:Sub H2 H3):Sub H1 H3:=fun x o h=>b x o (a x o h)
theorem Sub.rd {a:Addr}{u:HO}(e:Sub H H') (h:Rd H a u):Rd H' a u:=by
 rcases h with h | ⟨o,h⟩
 ·exact Or.inl (e a _ h)
 ·exact Or.inr ⟨o,e a _ h⟩
theorem Sub.l {a:Addr}{xs:List V}(e:Sub H H') (h:SqL K H a xs):SqL K H' a xs:=by
 rcases h with h | h
 ·exact Or.inl (e.rd h)
 ·exact Or.inr h
theorem Sub.t {a:Addr}{xs:List V}(e:Sub H H') (h:H a=some (.tup xs)):SqT K H' a xs:=SqT.of (e _ _ h)
theorem Sub.tp {a:Addr}{o:Obj}{xs:List V}(e:Sub H H') (h:H a=some (.frz o (.tup xs))):SqT K H' a xs:=Or.inl (Or.inr ⟨o,e _ _ h⟩)
theorem Sub.xd {od:Option Addr}{fs:List (Str×V)}(e:Sub H H') (h:XD H od fs):XD H' od fs:=by
 cases od with
 | none=>exact h
 | some dx=>exact e _ _ h
mutual
theorem Dv.mono (e:Sub H H'):∀{v:V}{d:D},Dv K H v d→Dv K H' v d
 | _,_,.non=> .non
 | _,_,.bl b=> .bl b
 | _,_,.int i=> .int i
 | _,_,.str x=> .str x
 | _,_,.lst h r=> .lst (e _ _ h) (DvL.mono e r)
 | _,_,.tup h r=> .tup (e _ _ h) (DvL.mono e r)
 | _,_,.qb h hd r=> .qb (e _ _ h) hd (DvL.mono e r)
 | _,_,.dcE h=> .dcE (e _ _ h)
 | _,_,.dcK h l r=> .dcK (e _ _ h) l (DvL.mono e r)
 | _,_,.dcT h l r=> .dcT (e _ _ h) l (DvL.mono e r)
 | _,_,.dcN h l r=> .dcN (e _ _ h) (l.mono fun _ _=>e _ _) (DvL.mono e r)
 | _,_,.raw v=> .raw v
 | _,_,.scr h=> .scr (e.l h)
 | _,_,.sref h=> .sref (e _ _ h)
 | _,_,.exc h x l r=> .exc (e _ _ h) (e.xd x) l (DvL.mono e r)
theorem DvL.mono (e:Sub H H'):∀{vs:List V}{ds:List D},DvL K H vs ds→DvL K H' vs ds
 | _,_,.nil=> .nil
 | _,_,.cons a r=> .cons (Dv.mono e a) (DvL.mono e r)
end
theorem DvL.len:∀{vs:List V}{ds:List D},DvL K H vs ds→vs.length=ds.length
 | _,_,.nil=>rfl
 | _,_,.cons _ r=>by rw [List.length_cons,List.length_cons,DvL.len r]
theorem DvL.app:∀{vs us:List V}{ds es:List D},DvL K H vs ds→DvL K H us es→DvL K H (vs++us) (ds++es)
 | _,_,_,_,.nil,r=>r
 | _,_,_,_,.cons a r,q=> .cons a (DvL.app r q)
theorem DvL.get:∀{vs:List V}{ds:List D}{i:Nat}{v:V},DvL K H vs ds→vs[i]?=some v→∃d,ds[i]?=some d∧Dv K H v d
 | _,_,_,_,.nil,e=>by simp at e
 | _,_,0,_,.cons a _,e=>by simp at e;subst e;exact ⟨_,rfl,a⟩
 | _,_,i+1,v,.cons _ r,e=>by
  obtain ⟨d,h1,h2⟩:=DvL.get (i:=i) (v:=v) r (by simpa using e)
  exact ⟨d,by simpa using h1,h2⟩
theorem DvL.getD:∀{vs:List V}{ds:List D}{i:Nat}{d:D},DvL K H vs ds→ds[i]?=some d→∃v,vs[i]?=some v∧Dv K H v d
 | _,_,_,_,.nil,e=>by simp at e
 | _,_,0,_,.cons a _,e=>by simp at e;subst e;exact ⟨_,rfl,a⟩
 | _,_,i+1,v,.cons _ r,e=>by
  obtain ⟨d,h1,h2⟩:=DvL.getD (i:=i) (d:=v) r (by simpa using e)
  exact ⟨d,by simpa using h1,h2⟩
end
def sH:Key:=Sum.inr "cells"
def lU:Key:=Sum.inr "great"
def tE:Key:=Sum.inr "spot"
structure DrwAt (am ac ag:Addr) (s:DS) (H:Hp):Prop where
 m:H am=some (.dK [(sH,.ref ac),(lU,.ref ag),(tE,.int s.spot)])
 c:H ac=some (.lst (s.cells.map V.int))
 g:H ag=some (.lst (s.great.map V.int))
 ne:ac≠ag
structure Wd where
 fr:PySem.W.Frag
 dr:Option (Addr×Addr×Addr)
 tb:List NdefX.NTab
def Wd.gq (W:Wd) (a:Addr):Prop:=(∃p,W.dr=some p∧(a=p.1∨a=p.2.1∨a=p.2.2))∨∃t∈W.tb,a=t.1
def Ek (W:Wd) (B H:Hp) (p:Addr):Th→Prop
 | .ins C fs=>∃(dx:Addr) (ns:List Str) (vs:List V) (ds:List D),H p=some (.ins C dx (ns.zip vs))∧ns.length=vs.length∧DvL W.fr B vs ds∧fs=ns.zip ds
 | .dT kvs=>∃(ks:List (List Key)) (vs:List V) (ds:List D),H p=some (.dT (ks.zip vs))∧ks.length=vs.length∧DvL W.fr B vs ds∧kvs=ks.zip ds
 | .dK kvs=>∃(ks:List Key) (vs:List V) (ds:List D),H p=some (.dK (ks.zip vs))∧ks.length=vs.length∧DvL W.fr B vs ds∧kvs=ks.zip ds
 | .lst ds=>∃vs:List V,H p=some (.lst vs)∧DvL W.fr B vs ds
 | .lT kvs=>∃(od:Obj) (ks:List (List Key)) (vs:List V) (ds:List D),H p=some (.frz od (.dT (ks.zip vs)))∧ks.length=vs.length∧DvL W.fr B vs ds∧kvs=ks.zip ds
 | .lK kvs=>∃(od:Obj) (ks:List Key) (vs:List V) (ds:List D),H p=some (.frz od (.dK (ks.zip vs)))∧ks.length=vs.length∧DvL W.fr B vs ds∧kvs=ks.zip ds
structure StOk (W:Wd) (s:DS) (B H:Hp):Prop where
 at_:∀(i:Nat) (o:Th),s.objs[i]?=some o→∃p,B p=some (mD i)∧¬W.gq p∧Ek W B H p o
 one:∀(p q:Addr) (i:Nat),B p=some (mD i)→B q=some (mD i)→p=q
 tk:∀(p:Addr) (o:HO),B p=some o→o.gh=true→∃i,o=mD i∧i<s.objs.length
structure Wd.ok (W:Wd) (s:DS) (B H:Hp):Prop where
 dr:∀p,W.dr=some p→DrwAt p.1 p.2.1 p.2.2 s H
 tb:NdefX.TabsN W.tb H
 at_:s.at_=W.dr.map (·.1)
 st_:StOk W s B H
theorem Wd.ok.dom {W:Wd}{s:DS}{B H:Hp}(h:W.ok s B H) {a:Addr}(v:W.gq a):∃o,H a=some o:=by
 rcases v with ⟨p,e,h1 | h1 | h1⟩ | ⟨t,ht,rfl⟩
 ·subst h1;exact ⟨_,(h.dr p e).m⟩
 ·subst h1;exact ⟨_,(h.dr p e).c⟩
 ·subst h1;exact ⟨_,(h.dr p e).g⟩
 ·obtain ⟨ps,e,_⟩:=h.tb t ht
  exact ⟨_,e⟩
def Nt (B:Hp) (a:Addr):Prop:=∀o,B a=some o→o.gh=false
theorem Nt.none {B:Hp}{a:Addr}(h:B a=Option.none):Nt B a:=fun o e=>by rw [h] at e;cases e
theorem Nt.val {B:Hp}{a:Addr}{o:HO}(h:B a=some o) (g:o.gh=false):Nt B a:=fun u e=>by rw [h] at e;cases e;exact g
theorem Ek.up {W:Wd}{B H B' H':Hp}{p:Addr}{o:Th}(h:Ek W B H p o) (b:Sub B B') (e:∀u,H p=some u→H' p=some u):Ek W B' H' p o:=by
 cases o with
 | ins C fs=>
  obtain ⟨dx,ns,vs,ds,a,l,r,z⟩:=h
  exact ⟨dx,ns,vs,ds,e _ a,l,r.mono b,z⟩
 | dT kvs=>
  obtain ⟨ks,vs,ds,a,l,r,z⟩:=h
  exact ⟨ks,vs,ds,e _ a,l,r.mono b,z⟩
 | dK kvs=>
  obtain ⟨ks,vs,ds,a,l,r,z⟩:=h
  exact ⟨ks,vs,ds,e _ a,l,r.mono b,z⟩
 | lst ds=>
  obtain ⟨vs,a,r⟩:=h
  exact ⟨vs,e _ a,r.mono b⟩
 | lT kvs=>
  obtain ⟨od,ks,vs,ds,a,l,r,z⟩:=h
  exact ⟨od,ks,vs,ds,e _ a,l,r.mono b,z⟩
 | lK kvs=>
  obtain ⟨od,ks,vs,ds,a,l,r,z⟩:=h
  exact ⟨od,ks,vs,ds,e _ a,l,r.mono b,z⟩
theorem Ek.some {W:Wd}{B H:Hp}{p:Addr}{o:Th}(h:Ek W B H p o):∃u,H p = .some u∧u.Yk=false∧u.gh=false:=by
 cases o with
 | ins C fs=>obtain ⟨dx,ns,vs,ds,a,_⟩:=h;exact ⟨_,a,rfl,rfl⟩
 | dT kvs=>obtain ⟨ks,vs,ds,a,_⟩:=h;exact ⟨_,a,rfl,rfl⟩
 | dK kvs=>obtain ⟨ks,vs,ds,a,_⟩:=h;exact ⟨_,a,rfl,rfl⟩
 | lst ds=>obtain ⟨vs,a,_⟩:=h;exact ⟨_,a,rfl,rfl⟩
 | lT kvs=>obtain ⟨od,ks,vs,ds,a,_⟩:=h;exact ⟨_,a,rfl,rfl⟩
 | lK kvs=>obtain ⟨od,ks,vs,ds,a,_⟩:=h;exact ⟨_,a,rfl,rfl⟩
def _root_.L2.HO.fz:HO→Bool
 | .frz _ _=>true
 | _=>false
def Ext (W:Wd) (B H H':Hp):Prop:=∀a o,¬W.gq a→(Nt B a∨o.fz=true)→H a=some o→H' a=some o
theorem Ext.refl {W:Wd}{B:Hp}(H:Hp):Ext W B H H:=fun _ _ _ _ h=>h
def Y9 (H:Hp) (a:Addr) (o:HO):Prop:=(o.gh=false∧H a=some o)∨(o.gh=true∧∃u,H a=some u∧u.Yk=false)
theorem Y9.up {H H':Hp}{a:Addr}{o:HO}(h:Y9 H a o) (e:∀u,H a=some u→H' a=some u):Y9 H' a o:=by
 rcases h with ⟨g,h⟩ | ⟨g,u,h,i⟩
 ·exact Or.inl ⟨g,e _ h⟩
 ·exact Or.inr ⟨g,u,e _ h,i⟩
theorem Y9.ex {H:Hp}{a:Addr}{o:HO}(h:Y9 H a o):∃u,H a=some u:=by
 rcases h with ⟨g,h⟩ | ⟨g,u,h,i⟩
 ·exact ⟨_,h⟩
 ·exact ⟨_,h⟩
def Kn (W:Wd) (B H:Hp):Prop:=∀a o,B a=some o→¬W.gq a∧Y9 H a o
theorem Kn.get {W:Wd}{B H:Hp}(k:Kn W B H) {a:Addr}{o:HO}(h:B a=some o) (g:o.gh=false:=by rfl):H a=some o:=by
 rcases (k a o h).2 with ⟨_,e⟩ | ⟨z,_⟩
 ·exact e
 ·rw [g] at z;cases z
theorem Kn.ex {W:Wd}{B H:Hp}(k:Kn W B H) {a:Addr}{o:HO}(h:B a=some o):∃u,H a=some u:=(k a o h).2.ex
def Fe (B:Hp):Hp:=fun a=>match B a with
 | some o=>if o.gh=true then none else some o
 | none=>none
theorem Cp {B:Hp}{a:Addr}{o:HO}(h:B a=some o) (g:o.gh=false:=by rfl):Fe B a=some o:=by
 unfold Fe;rw [h];simp [g]
theorem Rx {B:Hp}:Sub (Fe B) B:=fun a o h=>by
 unfold Fe at h
 cases e:B a with
 | none=>rw [e] at h;cases h
 | some u=>
  rw [e] at h
  dsimp only at h
  split at h
  ·cases h
  ·exact h
theorem abj {B:Hp}{a:Addr}{o:HO}(h:Fe B a=some o):o.gh=false:=by
 unfold Fe at h
 cases e:B a with
 | none=>rw [e] at h;cases h
 | some u=>
  rw [e] at h
  dsimp only at h
  split at h
  ·cases h
  ·rename_i n
   cases h
   cases z:o.gh
   ·rfl
   ·exact absurd z n
theorem Kn.sub {W:Wd}{B H:Hp}(k:Kn W B H):Sub (Fe B) H:=fun a o h=>k.get (Rx a o h) (abj h)
theorem Kn.t {W:Wd}{B H:Hp}{K:PySem.W.Frag}(k:Kn W B H) {a:Addr}{xs:List V}(h:B a=some (.tup xs)):SqT K H a xs:=SqT.of (k.get h)
theorem Kn.tp {W:Wd}{B H:Hp}{K:PySem.W.Frag}(k:Kn W B H) {a:Addr}{o:Obj}{xs:List V}(h:B a=some (.frz o (.tup xs))):SqT K H a xs:=Or.inl (Or.inr ⟨o,k.get h⟩)
theorem Kn.rd {W:Wd}{B H:Hp}(k:Kn W B H) {a:Addr}{u:HO}(h:Rd B a u) (g:u.gh=false:=by rfl):Rd H a u:=by
 rcases h with h | ⟨o,h⟩
 ·exact Or.inl (k.get h g)
 ·exact Or.inr ⟨o,k.get h⟩
theorem Kn.l {W:Wd}{B H:Hp}{K:PySem.W.Frag}(k:Kn W B H) {a:Addr}{xs:List V}(h:SqL K B a xs):SqL K H a xs:=by
 rcases h with h | h
 ·exact Or.inl (k.rd h)
 ·exact Or.inr h
theorem Kn.xd {W:Wd}{B H:Hp}(k:Kn W B H) {od:Option Addr}{fs:List (Str×V)}(h:XD B od fs):XD H od fs:=by
 cases od with
 | none=>exact h
 | some dx=>exact k.get h
mutual
def D.sol:D→Bool
 | .non=>true
 | .bl _=>true
 | .int _=>true
 | .str _=>true
 | .lst xs=>D.Jk xs
 | .tup xs=>D.Jk xs
 | .qb xs=>D.Jk xs
 | .dct []=>true
 | .raw _=>true
 | .scr _=>true
 | _=>false
def D.Jk:List D→Bool
 | []=>true
 | x::xs=>D.sol x&&D.Jk xs
end
section
variable {K:PySem.W.Frag}{B:Hp}
mutual
theorem Dv.Fe:∀{v:V}{d:D},Dv K B v d→d.sol=true→Dv K (Fe B) v d
 | _,_,.non,_=> .non
 | _,_,.bl b,_=> .bl b
 | _,_,.int i,_=> .int i
 | _,_,.str x,_=> .str x
 | _,_,.lst h r,e=> .lst (Cp h) (DvL.Fe r (by unfold D.sol at e;exact e))
 | _,_,.tup h r,e=> .tup (Cp h) (DvL.Fe r (by unfold D.sol at e;exact e))
 | _,_,.qb h hd r,e=> .qb (Cp h) hd (DvL.Fe r (by unfold D.sol at e;exact e))
 | _,_,.dcE h,e=> .dcE (Cp h)
 | _,_,.dcK h l r,e=>by unfold D.sol at e;cases e
 | _,_,.dcT h l r,e=>by unfold D.sol at e;cases e
 | _,_,.dcN h l r,e=>by unfold D.sol at e;cases e
 | _,_,.raw v,e=> .raw v
 | _,_,.scr h,e=> .scr (by
  rcases h with (h | ⟨o,h⟩) | h
  ·exact Or.inl (Or.inl (Cp h))
  ·exact Or.inl (Or.inr ⟨o,Cp h⟩)
  ·exact Or.inr h)
 | _,_,.sref h,e=>by unfold D.sol at e;cases e
 | _,_,.exc h x l r,e=>by unfold D.sol at e;cases e
theorem DvL.Fe:∀{vs:List V}{ds:List D},DvL K B vs ds→D.Jk ds=true→DvL K (Fe B) vs ds
 | _,_,.nil,_=> .nil
 | _,_,.cons a r,e=>by
  unfold D.Jk at e
  simp only [Bool.and_eq_true] at e
  exact .cons (Dv.Fe a e.1) (DvL.Fe r e.2)
end
end
structure Gr (W:Wd) (B H B' H':Hp):Prop where
 kn:Kn W B' H'
 bb:Sub B B'
 hx:Ext W B H H'
 nw:∀a o,H a=some o→o.Yk=false→B' a=B a
theorem Gr.hh {W:Wd}{B H B' H':Hp}(g:Gr W B H B' H'):∀a o,¬W.gq a→Nt B a→H a=some o→H' a=some o:=fun a o v n e=>g.hx a o v (.inl n) e
theorem Gr.refl {W:Wd}{B H:Hp}(k:Kn W B H):Gr W B H B H:=⟨k,Sub.refl _,Ext.refl _,fun _ _ _ _=>rfl⟩
theorem Gr.nt {W:Wd}{B H B' H':Hp}(g:Gr W B H B' H') {a:Addr}{o:HO}(nv:¬W.gq a) (n:Nt B a) (h:H a=some o):Nt B' a:=by
 cases im:o.Yk with
 | false=>rw [Nt,g.nw a o h im];exact n
 | true=>
  intro u e
  cases gu:u.gh with
  | false=>rfl
  | true=>
   rcases (g.kn a u e).2 with ⟨z,_⟩ | ⟨_,v,ev,iv⟩
   ·rw [gu] at z;cases z
   ·rw [g.hh a o nv n h] at ev
    cases ev
    rw [im] at iv
    cases iv
theorem Kn.Mh {W:Wd}{B H:Hp}(k:Kn W B H) {a:Addr}(v:W.gq a):B a=none:=by
 cases e:B a with
 | none=>rfl
 | some o=>exact absurd v (k a o e).1
theorem Gr.trans {W:Wd}{B H B1 H1 B2 H2:Hp}(a:Gr W B H B1 H1) (b:Gr W B1 H1 B2 H2):Gr W B H B2 H2:=
 ⟨b.kn,a.bb.trans b.bb,fun x o nv n h=>b.hx x o nv (n.imp (fun n=>a.nt nv n h) id) (a.hx x o nv n h),fun x o h im=>by
  by_cases v:W.gq x
  ·have e1:B1 x=none:=a.kn.Mh v
   have e2:B2 x=none:=b.kn.Mh v
   rw [e2]
   cases e:B x with
   | none=>rfl
   | some u=>rw [a.bb x u e] at e1;cases e1
  ·cases e:B x with
   | none=>
    have n:Nt B x:=Nt.none e
    rw [b.nw x o (a.hh x o v n h) im,a.nw x o h im,e]
   | some u=>
    rw [b.bb x u (a.bb x u e)]⟩
theorem Gr.nn {W:Wd}{B H B' H':Hp}(g:Gr W B H B' H') {p:Addr}(nv:¬W.gq p) (h:H' p=Option.none):H p=Option.none:=by
 cases e:H p with
 | none=>rfl
 | some o=>
  cases eb:B p with
  | none=>rw [g.hh p o nv (Nt.none eb) e] at h;cases h
  | some u=>
   obtain ⟨v,z⟩:=g.kn.ex (g.bb _ _ eb)
   rw [z] at h;cases h
theorem cA {W:Wd}{B H:Hp}{p:Addr}(k:Kn W B H) (h:H p=none):B p=none:=by
 cases e:B p with
 | none=>rfl
 | some o=>
  obtain ⟨u,z⟩:=k.ex e
  rw [z] at h;cases h
theorem Nt.upd {B:Hp}{a p:Addr}{o:HO}(h:Nt B a) (g:o.gh=false:=by rfl):Nt (upd B p o) a:=fun u e=>by
 by_cases ha:a=p
 ·subst ha
  rw [upd_same] at e
  cases e
  exact g
 ·rw [upd_ne ha] at e
  exact h u e
theorem Y9.off {H:Hp}{a p:Addr}{o u:HO}(h:Y9 H a o) (n:a≠p):Y9 (upd H p u) a o:=h.up fun z e=>by rw [upd_ne n];exact e
theorem StOk.off {W:Wd}{s:DS}{B H:Hp}{p:Addr}{u:HO}(h:StOk W s B H) (hb:B p=none):StOk W s B (upd H p u):=
 ⟨fun i o ho=>let ⟨q,a,b,c⟩:=h.at_ i o ho;⟨q,a,b,c.up (Sub.refl _) fun z e=>by rw [upd_ne (ne_of_none a hb)];exact e⟩,h.one,h.tk⟩
theorem Nt.back {B B':Hp}{a:Addr}(s:Sub B B') (h:Nt B' a):Nt B a:=fun u e=>h u (s a u e)
theorem Gr.new {W:Wd}{B H:Hp}{s:DS}(k:Kn W B H) (w:W.ok s B H) {p:Addr}{o:HO}(h:H p=none) (g:o.gh=false:=by rfl):Gr W B H (upd B p o) (upd H p o):=by
 have hv:¬W.gq p:=fun v=>by
  obtain ⟨u,e⟩:=w.dom v
  rw [e] at h;cases h
 have hb:B p=none:=by
  cases e:B p with
  | none=>rfl
  | some u=>
   obtain ⟨v,z⟩:=k.ex e
   rw [z] at h;cases h
 refine ⟨fun a u e=> ?_,fun a u e=> ?_,fun a u n _ e=> ?_,fun a u e _=> ?_⟩
 ·by_cases ha:a=p
  ·subst ha
   rw [upd_same] at e
   cases e
   exact ⟨hv,Or.inl ⟨g,upd_same⟩⟩
  ·rw [upd_ne ha] at e
   exact ⟨(k a u e).1,(k a u e).2.up fun z ez=>by rw [upd_ne ha];exact ez⟩
 ·rw [upd_ne (ne_of_none e hb)];exact e
 ·rw [upd_ne (ne_of_none e h)];exact e
 ·rw [upd_ne (ne_of_none e h)]
theorem bh {H:Hp}{p:Addr}{o:HO}(h:H p=none):Sub H (upd H p o):=fun a u e=>by
 rw [upd_ne (ne_of_none e h)];exact e
theorem Gr.lay {W:Wd}{B H:Hp}(k:Kn W B H) {p:Addr}{o:HO}(h:H p=none):Gr W B H B (upd H p o):=
 ⟨fun a u e=>⟨(k a u e).1,(k a u e).2.up fun z ez=>bh h a z ez⟩,Sub.refl _,fun a u n _ e=>bh h a u e,fun _ _ _ _=>rfl⟩
theorem Wd.ok.st {W:Wd}{s:DS}{B H H':Hp}(h:W.ok s B H) (e:Sub H H'):W.ok s B H':=
 ⟨fun p q=>let z:=h.dr p q;⟨e _ _ z.m,e _ _ z.c,e _ _ z.g,z.ne⟩,h.tb.ext e,h.at_,fun i o ho=>let ⟨p,a,b,c⟩:=h.st_.at_ i o ho;⟨p,a,b,c.up (Sub.refl _) fun u=>e p u⟩,h.st_.one,h.st_.tk⟩
theorem Wd.ok.U0 {W:Wd}{s:DS}{B H:Hp}{p:Addr}{o:HO}(h:W.ok s B H) (hb:B p=none) (g:o.gh=false:=by rfl):W.ok s (upd B p o) H:=by
 have back:∀(a:Addr) (i:Nat),upd B p o a=some (mD i)→B a=some (mD i):=fun a i e=>by
  by_cases ha:a=p
  ·subst ha
   rw [upd_same] at e
   cases e
   cases g
  ·rw [upd_ne ha] at e
   exact e
 exact ⟨h.dr,h.tb,h.at_,fun i u hu=>let ⟨q,a,b,c⟩:=h.st_.at_ i u hu;⟨q,bh hb q _ a,b,c.up (bh hb) fun _ z=>z⟩,fun a b i x y=>h.st_.one a b i (back a i x) (back b i y),fun a u x z=>by
  by_cases ha:a=p
  ·subst ha
   rw [upd_same] at x
   cases x
   rw [g] at z
   cases z
  ·rw [upd_ne ha] at x
   exact h.st_.tk a u x z⟩
theorem Wd.ok.nw {W:Wd}{s:DS}{B H:Hp}{p:Addr}{o:HO}(w:W.ok s B H) (k:Kn W B H) (hn:H p=none) (g:o.gh=false:=by rfl):W.ok s (upd B p o) (upd H p o):=(w.st (bh hn)).U0 (cA k hn) g
theorem Wd.ok.nt {W:Wd}{s:DS}{B H:Hp}(w:W.ok s B H) {a:Addr}{o:HO}(h:H a=some o) (n:(∀C d fs,o ≠ .ins C d fs)∧(∀kvs,o ≠ .dT kvs)∧(∀kvs,o ≠ .dK kvs)∧(∀xs,o ≠ .lst xs)∧o.fz=false):Nt B a:=fun u e=>by
 cases g:u.gh with
 | false=>rfl
 | true=>
  exfalso
  obtain ⟨i,rfl,hi⟩:=w.st_.tk a u e g
  obtain ⟨p,hp,_,so⟩:=w.st_.at_ i _ (List.getElem?_eq_getElem hi)
  obtain rfl:=w.st_.one p a i hp e
  revert so
  cases s.objs[i] with
  | ins C fs=>rintro ⟨dx,ns,vs,ds,z,_⟩;rw [h] at z;cases z;exact n.1 _ _ _ rfl
  | dT kvs=>rintro ⟨ks,vs,ds,z,_⟩;rw [h] at z;cases z;exact n.2.1 _ rfl
  | dK kvs=>rintro ⟨ks,vs,ds,z,_⟩;rw [h] at z;cases z;exact n.2.2.1 _ rfl
  | lst ds=>rintro ⟨vs,z,_⟩;rw [h] at z;cases z;exact n.2.2.2.1 _ rfl
  | lT kvs=>rintro ⟨od,ks,vs,ds,z,_⟩;rw [h] at z;cases z;cases n.2.2.2.2
  | lK kvs=>rintro ⟨od,ks,vs,ds,z,_⟩;rw [h] at z;cases z;cases n.2.2.2.2
theorem Wd.ok.ntc {W:Wd}{s:DS}{B H:Hp}(w:W.ok s B H) {c a:Addr}{q:Str}(h:H a=some (LamX.CodeO c q)):Nt B a:=
 w.nt h (by
  unfold LamX.CodeO
  refine ⟨fun _ _ _ z=> ?_,fun _ z=> ?_,fun _ z=> ?_,fun _ z=> ?_,rfl⟩<;>cases z)
theorem StOk.nil {W:Wd}{s:DS}{B H:Hp}(hb:∀p o,B p=some o→o.gh=false) (ho:s.objs=[]:=by rfl):StOk W s B H:=
 ⟨fun i o e=>by rw [ho] at e;simp at e,fun p q i e=>(by have:=hb p _ e;cases this),fun p o e g=>by rw [hb p o e] at g;cases g⟩
theorem StOk.up {W:Wd}{s s':DS}{B H H':Hp}(h:StOk W s B H) (hv:∀p u,¬W.gq p→H p=some u→H' p=some u) (ho:s'.objs=s.objs:=by rfl):StOk W s' B H':=
 ⟨fun i o e=>by rw [ho] at e;obtain ⟨q,a,b,c⟩:=h.at_ i o e;exact ⟨q,a,b,c.up (Sub.refl _) fun u=>hv q u b⟩,h.one,fun p o e g=>by rw [ho];exact h.tk p o e g⟩
theorem Xw {W:Wd}{H:Hp}{x:Addr}{o:HO}(v:W.gq x):∀p u,¬W.gq p→H p=some u→upd H x o p=some u:=fun p u n e=>by
 rw [upd_ne (fun z=>n (by rw [z];exact v))];exact e
inductive BwO (K:PySem.W.Frag) (B:Hp):HO→D→Prop
 | lst {vs:List V}{ds:List D}:DvL K B vs ds→BwO K B (.lst vs) (.lst ds)
 | dT {ks:List (List Key)}{vs:List V}{ds:List D}:ks.length=vs.length→DvL K B vs ds→BwO K B (.dT (ks.zip vs)) (.DG (ks.zip ds))
 | dK {ks:List Key}{vs:List V}{ds:List D}:ks.length=vs.length→DvL K B vs ds→BwO K B (.dK (ks.zip vs)) (.Ei (ks.zip ds))
 | lT {od:Obj}{ks:List (List Key)}{vs:List V}{ds:List D}:ks.length=vs.length→DvL K B vs ds→BwO K B (.frz od (.dT (ks.zip vs))) (.DG (ks.zip ds))
 | lK {od:Obj}{ks:List Key}{vs:List V}{ds:List D}:ks.length=vs.length→DvL K B vs ds→BwO K B (.frz od (.dK (ks.zip vs))) (.Ei (ks.zip ds))
theorem BwO.mono {K:PySem.W.Frag}{B B':Hp}{u:HO}{d:D}(e:Sub B B') (h:BwO K B u d):BwO K B' u d:=by
 cases h with
 | lst r=>exact .lst (r.mono e)
 | dT l r=>exact .dT l (r.mono e)
 | dK l r=>exact .dK l (r.mono e)
 | lT l r=>exact .lT l (r.mono e)
 | lK l r=>exact .lK l (r.mono e)
theorem BwO.gh {K:PySem.W.Frag}{B:Hp}{u:HO}{d:D}(h:BwO K B u d):u.gh=false:=by cases h<;>rfl
theorem BwO.im {K:PySem.W.Frag}{B:Hp}{u:HO}{d:D}(h:BwO K B u d):u.Yk=false:=by cases h<;>rfl
inductive Sl where
 | un
 | va (d:D)
 | ow (ds:List D)
 | cl
 | od (kvs:List (List Key×D))
 | oi (kvs:List (Key×D))
 | on (kvs:List (NestedKey×D))
 | bo (d:D)
 | bz (d:D)
def Sl.own:Sl→Bool
 | .ow _=>true
 | .od _=>true
 | .oi _=>true
 | .on _=>true
 | _=>false
def Sl.hold:Sl→Bool
 | .ow _=>true
 | .od _=>true
 | .oi _=>true
 | .on _=>true
 | .bo _=>true
 | .bz _=>true
 | _=>false
theorem Sl.O5 {x:Sl}(h:x.own=true):x.hold=true:=by cases x<;>first | rfl | cases h
structure Gd where
 tb:List NdefX.NTab
 w:World
 f:Addr
 p:Wd→Hp→Hp→Prop
 mono:∀{W:Wd}{B H B' H':Hp},Sub B B'→(∀a q,¬W.gq a→Nt B a→H a=some (LamX.CodeO a q)→Nt B' a∧H' a=some (LamX.CodeO a q))→p W B H→p W B' H'
def G0 (T:List NdefX.NTab) (w:World):Gd:=⟨T,w,0,fun _ _ _=>True,fun _ _ h=>h⟩
section
variable {G:Gd}
def Ja (G:Gd) (W:Wd) (K:PySem.W.Frag) (H0 B H:Hp) (ov:Option V):Sl→Prop
 | .un=>True
 | .va d=>∃v,ov=some v∧Dv K B v d
 | .cl=>ov=some (.ref G.f)
 | .ow ds=>∃p vs,ov=some (.ref p)∧¬W.gq p∧H0 p=none∧H p=some (.lst vs)∧B p=none∧DvL K B vs ds
 | .od kvs=>∃(p:Addr) (ks:List (List Key)) (vs:List V) (ds:List D),ov=some (.ref p)∧¬W.gq p∧H0 p=none∧H p=some (.dT (ks.zip vs))∧B p=none∧ks.length=vs.length∧DvL K B vs ds∧kvs=ks.zip ds
 | .oi kvs=>∃(p:Addr) (ks:List Key) (vs:List V) (ds:List D),ov=some (.ref p)∧¬W.gq p∧H0 p=none∧H p=some (.dK (ks.zip vs))∧B p=none∧ks.length=vs.length∧DvL K B vs ds∧kvs=ks.zip ds
 | .on kvs=>∃(p:Addr) (es:List nM) (ds:List D),ov=some (.ref p)∧¬W.gq p∧H0 p=none∧H p=some (nkO G.w p es)∧B p=none∧Y7 B es∧DvL K B (es.map (·.2.2)) ds∧kvs=(es.map (·.1)).zip ds
 | .bo d=>∃(p:Addr) (u:HO),ov=some (.ref p)∧¬W.gq p∧H p=some u∧((B p=none∧∀ds,d ≠ .lst ds)∨B p=some u∧Dv K B (.ref p) d)∧BwO K B u d
 | .bz d=>∃(p:Addr) (u:HO),ov=some (.ref p)∧¬W.gq p∧H p=some u∧((B p=none∧∀ds,d ≠ .lst ds)∨B p=some u∧Dv K B (.ref p) d)∧BwO K B u d∧u.fz=true
structure Sm (G:Gd) (W:Wd) (K:PySem.W.Frag) (H0 B H:Hp) (σ:St) (ls:List Sl):Prop where
 len:σ.length=ls.length
 sl:∀(i:Nat) (x:Sl),ls[i]?=some x→∃ov,σ[i]?=some ov∧Ja G W K H0 B H ov x
 dj:∀(i j:Nat) (x y:Sl) (p:Addr),i≠j→ls[i]?=some x→ls[j]?=some y→x.own=true→y.hold=true→σ[i]?=some (some (.ref p))→σ[j]?≠some (some (.ref p))
 gd:G.p W B H∧W.tb=G.tb∧W.fr=K
theorem Ja.grow {W:Wd}{K:PySem.W.Frag}{H0 B H B' H':Hp}{ov:Option V}{x:Sl}(g:Gr W B H B' H') (h:Ja G W K H0 B H ov x):Ja G W K H0 B' H' ov x:=by
 cases x with
 | un=>trivial
 | cl=>exact h
 | va d=>
  obtain ⟨v,e,r⟩:=h
  exact ⟨v,e,r.mono g.bb⟩
 | ow ds=>
  obtain ⟨p,vs,e,nv,h0,hp,hb,r⟩:=h
  exact ⟨p,vs,e,nv,h0,g.hh p _ nv (Nt.none hb) hp,by rw [g.nw p _ hp rfl];exact hb,r.mono g.bb⟩
 | od kvs=>
  obtain ⟨p,ks,vs,ds,e,nv,h0,hp,hb,l,r,z⟩:=h
  exact ⟨p,ks,vs,ds,e,nv,h0,g.hh p _ nv (Nt.none hb) hp,by rw [g.nw p _ hp rfl];exact hb,l,r.mono g.bb,z⟩
 | oi kvs=>
  obtain ⟨p,ks,vs,ds,e,nv,h0,hp,hb,l,r,z⟩:=h
  exact ⟨p,ks,vs,ds,e,nv,h0,g.hh p _ nv (Nt.none hb) hp,by rw [g.nw p _ hp rfl];exact hb,l,r.mono g.bb,z⟩
 | on kvs=>
  obtain ⟨p,es,ds,e,nv,h0,hp,hb,l,r,z⟩:=h
  exact ⟨p,es,ds,e,nv,h0,g.hh p _ nv (Nt.none hb) hp,by rw [g.nw p _ hp rfl];exact hb,l.mono fun _ _=>g.bb _ _,r.mono g.bb,z⟩
 | bo d=>
  obtain ⟨p,u,e1,nv,hp,hb,r⟩:=h
  rcases hb with ⟨hb,hl⟩ | ⟨hb,q⟩
  ·exact ⟨p,u,e1,nv,g.hh p _ nv (Nt.none hb) hp,.inl ⟨by rw [g.nw p _ hp r.im];exact hb,hl⟩,r.mono g.bb⟩
  ·exact ⟨p,u,e1,nv,g.hh p _ nv (Nt.val hb r.gh) hp,.inr ⟨g.bb _ _ hb,q.mono g.bb⟩,r.mono g.bb⟩
 | bz d=>
  obtain ⟨p,u,e1,nv,hp,hb,r⟩:=h
  rcases hb with ⟨hb,hl⟩ | ⟨hb,q⟩
  ·exact ⟨p,u,e1,nv,g.hh p _ nv (Nt.none hb) hp,.inl ⟨by rw [g.nw p _ hp r.1.im];exact hb,hl⟩,r.1.mono g.bb,r.2⟩
  ·exact ⟨p,u,e1,nv,g.hh p _ nv (Nt.val hb r.1.gh) hp,.inr ⟨g.bb _ _ hb,q.mono g.bb⟩,r.1.mono g.bb,r.2⟩
theorem Sm.grow {W:Wd}{K:PySem.W.Frag}{H0 B H B' H':Hp}{σ:St}{ls:List Sl}(g:Gr W B H B' H') (h:Sm G W K H0 B H σ ls):Sm G W K H0 B' H' σ ls:=
 ⟨h.len,fun i x e=>let ⟨ov,e1,r⟩:=h.sl i x e;⟨ov,e1,r.grow g⟩,h.dj,G.mono g.bb (fun a q n nt e=>⟨g.nt n nt e,g.hh a _ n nt e⟩) h.gd.1,h.gd.2⟩
theorem fu {α:Type}{l:List α}{i j:Nat}{a x:α}(e:(l.set i a)[j]?=some x):(j=i∧x=a∧i<l.length)∨(j≠i∧l[j]?=some x):=by
 by_cases h:j=i
 ·subst h
  have hlt:j<l.length:=by simpa using (List.getElem?_eq_some_iff.mp e).1
  rw [List.getElem?_set_self hlt] at e
  exact Or.inl ⟨rfl,(Option.some.inj e).symm,hlt⟩
 ·rw [List.getElem?_set_ne (Ne.symm h)] at e
  exact Or.inr ⟨h,e⟩
theorem Sm.wg {W:Wd}{K:PySem.W.Frag}{H0 B H:Hp}{σ:St}{ls:List Sl}{i:Nat}{v:V}{d:D}(h:Sm G W K H0 B H σ ls) (r:Dv K B v d):Sm G W K H0 B H (σ.set i (some v)) (ls.set i (.va d)):=by
 refine ⟨by simp [h.len],fun j x e=> ?_,fun j k x y p hjk e1 e2 o1 o2 e3=> ?_,h.gd⟩
 ·rcases fu e with ⟨rfl,rfl,hlt⟩ | ⟨hj,e⟩
  ·exact ⟨some v,by rw [List.getElem?_set_self (by rw [h.len];exact hlt)],v,rfl,r⟩
  ·rw [List.getElem?_set_ne (Ne.symm hj)]
   exact h.sl j x e
 ·rcases fu e1 with ⟨_,z,_⟩ | ⟨nj,e1⟩
  ·rw [z] at o1;cases o1
  ·rcases fu e2 with ⟨_,z,_⟩ | ⟨nk,e2⟩
   ·rw [z] at o2;cases o2
   ·rw [List.getElem?_set_ne (Ne.symm nj)] at e3
    rw [List.getElem?_set_ne (Ne.symm nk)]
    exact h.dj j k x y p hjk e1 e2 o1 o2 e3
theorem Sm.Qn {W:Wd}{K:PySem.W.Frag}{H0 B H:Hp}{σ:St}{ls:List Sl}{i:Nat}{o:Option V}(h:Sm G W K H0 B H σ ls):Sm G W K H0 B H (σ.set i o) (ls.set i .un):=by
 refine ⟨by simp [h.len],fun j x e=> ?_,fun j k x y p hjk e1 e2 o1 o2 e3=> ?_,h.gd⟩
 ·rcases fu e with ⟨rfl,rfl,hlt⟩ | ⟨hj,e⟩
  ·exact ⟨o,by rw [List.getElem?_set_self (by rw [h.len];exact hlt)],trivial⟩
  ·rw [List.getElem?_set_ne (Ne.symm hj)]
   exact h.sl j x e
 ·rcases fu e1 with ⟨_,z,_⟩ | ⟨nj,e1⟩
  ·rw [z] at o1;cases o1
  ·rcases fu e2 with ⟨_,z,_⟩ | ⟨nk,e2⟩
   ·rw [z] at o2;cases o2
   ·rw [List.getElem?_set_ne (Ne.symm nj)] at e3
    rw [List.getElem?_set_ne (Ne.symm nk)]
    exact h.dj j k x y p hjk e1 e2 o1 o2 e3
theorem Sm.Kw {W:Wd}{K:PySem.W.Frag}{H0 B H:Hp}{σ:St}{ls:List Sl}{i:Nat}{p:Addr}{vs:List V}{ds:List D}(h:Sm G W K H0 B H σ ls) (nv:¬W.gq p) (h0:H0 p=none) (hp:H p=some (.lst vs)) (hb:B p=none) (r:DvL K B vs ds)
  (fr:∀(j:Nat) (x:Sl),ls[j]?=some x→x.hold=true→σ[j]?≠some (some (.ref p))):Sm G W K H0 B H (σ.set i (some (.ref p))) (ls.set i (.ow ds)):=by
 refine ⟨by simp [h.len],fun j x e=> ?_,fun j k es fs q hjk e1 e2 o1 o2 e3=> ?_,h.gd⟩
 ·rcases fu e with ⟨rfl,rfl,hlt⟩ | ⟨hj,e⟩
  ·exact ⟨some (.ref p),by rw [List.getElem?_set_self (by rw [h.len];exact hlt)],p,vs,rfl,nv,h0,hp,hb,r⟩
  ·rw [List.getElem?_set_ne (Ne.symm hj)]
   exact h.sl j x e
 ·rcases fu e1 with ⟨ej,_,hlt⟩ | ⟨nj,f1⟩
  ·rw [ej,List.getElem?_set_self (by rw [h.len];exact hlt)] at e3
   cases e3
   rcases fu e2 with ⟨e,_,_⟩ | ⟨nk,f2⟩
   ·exact absurd (ej.trans e.symm) hjk
   ·rw [List.getElem?_set_ne (Ne.symm nk)]
    exact fr k fs f2 o2
  ·rw [List.getElem?_set_ne (Ne.symm nj)] at e3
   rcases fu e2 with ⟨ek,_,hlt⟩ | ⟨nk,f2⟩
   ·rw [ek,List.getElem?_set_self (by rw [h.len];exact hlt)]
    intro z
    cases z
    exact fr j es f1 (Sl.O5 o1) e3
   ·rw [List.getElem?_set_ne (Ne.symm nk)]
    exact h.dj j k es fs q hjk f1 f2 o1 o2 e3
def Db (W:Wd) (K:PySem.W.Frag) (B H:Hp) (v:V) (d:D):Prop:=Dv K B v d∨∃p u,v = .ref p∧¬W.gq p∧B p=none∧H p=some u∧BwO K B u d
theorem Db.grow {W:Wd}{K:PySem.W.Frag}{B H B' H':Hp}{v:V}{d:D}(g:Gr W B H B' H') (h:Db W K B H v d):Db W K B' H' v d:=by
 rcases h with h | ⟨p,u,e1,nv,hb,hp,r⟩
 ·exact Or.inl (h.mono g.bb)
 ·exact Or.inr ⟨p,u,e1,nv,by rw [g.nw p _ hp r.im];exact hb,g.hh p _ nv (Nt.none hb) hp,r.mono g.bb⟩
def Dw (K:PySem.W.Frag) (B H:Hp) (v:V) (d:D):Prop:=Dv K B v d∨∃p u,v = .ref p∧H p=some u∧BwO K B u d
theorem Db.w {W:Wd}{K:PySem.W.Frag}{B H:Hp}{v:V}{d:D}(h:Db W K B H v d):Dw K B H v d:=by
 rcases h with h | ⟨p,u,e1,nv,hb,hp,r⟩
 ·exact Or.inl h
 ·exact Or.inr ⟨p,u,e1,hp,r⟩
theorem Dv.w {K:PySem.W.Frag}{B H:Hp}{v:V}{d:D}(h:Dv K B v d):Dw K B H v d:=Or.inl h
def XFl (K:PySem.W.Frag) (B:Hp) (od:Option Addr) (fs:List (Str×D)):Prop:=∃(ns:List Str) (vs:List V) (ds:List D),XD B od (ns.zip vs)∧ns.length=vs.length∧DvL K B vs ds∧fs=ns.zip ds
def XW (W:Wd) (K:PySem.W.Frag) (B H:Hp) (C:Addr) (fs:List (Str×D)) (s':DS) (E:XK):Prop:=
 ∀(od:Option Addr) (B' H':Hp),Gr W B H B' H'→W.ok s' B' H'→XFl K B' od fs→E (.ref C) od H'
def Ans (W:Wd) (K:PySem.W.Frag) (B H:Hp) (r:Res D) (Q:VK) (E:XK):Prop:=match r with
 | .ok d s'=>∀(v:V) (B' H':Hp),Gr W B H B' H'→W.ok s' B' H'→Dv K B' v d→Q v H'
 | .exc C fs s'=>XW W K B H C fs s' E
 | .stuck=>False
end
section
variable {G:Gd}
abbrev bJ (α:Type):=List Sl→M α
structure SE (G:Gd) (X:Cx) (Wx:WX) (e:Expr) (m:bJ D):Prop where
 ex:∃t,PE X e t∧∀(W:Wd) (H0:Hp) (σ:St) (B H:Hp) (ls:List Sl) (s:DS) (Q:VK),Kn W B H→W.ok s B H→Sm G W X.K H0 B H σ ls→Ans W X.K B H (m ls s) Q (fun c d H'=>Wx c d σ H')→t σ H Q
def QD (W:Wd) (K:PySem.W.Frag) (B H:Hp) (r:Res D) (Q:VK) (E:XK):Prop:=match r with
 | .ok d s'=>∀(v:V) (B' H':Hp),Gr W B H B' H'→W.ok s' B' H'→Db W K B' H' v d→Q v H'
 | .exc C fs s'=>XW W K B H C fs s' E
 | .stuck=>False
structure SO (G:Gd) (X:Cx) (Wx:WX) (e:Expr) (m:bJ D):Prop where
 ex:∃t,PE X e t∧∀(W:Wd) (H0:Hp) (σ:St) (B H:Hp) (ls:List Sl) (s:DS) (Q:VK),Kn W B H→W.ok s B H→Sm G W X.K H0 B H σ ls→QD W X.K B H (m ls s) Q (fun c d H'=>Wx c d σ H')→t σ H Q
theorem QD.ans {W:Wd}{K:PySem.W.Frag}{B H:Hp}{r:Res D}{Q:VK}{E:XK}(h:QD W K B H r Q E):Ans W K B H r Q E:=by
 cases r with
 | ok d s'=>exact fun v B' H' g w r=>h v B' H' g w (Or.inl r)
 | exc C fs s'=>exact h
 | stuck=>exact h
theorem SE.o {X:Cx}{Wx:WX}{e:Expr}{m:bJ D}(h:SE G X Wx e m):SO G X Wx e m:=by
 obtain ⟨t,p,h⟩:=h.ex
 exact ⟨t,p,fun W H0 σ B H ls s Q k w sm q=>h W H0 σ B H ls s Q k w sm q.ans⟩
def pX (W:Wd) (K:PySem.W.Frag) (B H:Hp) (r:Res (List D)) (Q:VK) (E:XK):Prop:=match r with
 | .ok ds s'=>∀(p:Addr) (vs:List V) (B' H':Hp),Gr W B H B' H'→W.ok s' B' H'→H p=none→¬W.gq p→B' p=none→H' p=some (.lst vs)→DvL K B' vs ds→Q (.ref p) H'
 | .exc C fs s'=>XW W K B H C fs s' E
 | .stuck=>False
structure SL (G:Gd) (X:Cx) (Wx:WX) (e:Expr) (m:bJ (List D)):Prop where
 ex:∃t,PE X e t∧∀(W:Wd) (H0:Hp) (σ:St) (B H:Hp) (ls:List Sl) (s:DS) (Q:VK),Kn W B H→W.ok s B H→Sm G W X.K H0 B H σ ls→pX W X.K B H (m ls s) Q (fun c d H'=>Wx c d σ H')→t σ H Q
def mL (m:bJ (List D)):bJ D:=fun ls=>bnd (m ls) fun ds=>ret (.lst ds)
theorem SL.se {X:Cx}{Wx:WX}{e:Expr}{m:bJ (List D)}(h:SL G X Wx e m):SE G X Wx e (mL m):=by
 obtain ⟨t,p,h⟩:=h.ex
 refine ⟨t,p,fun W H0 σ B H ls s Q k w sm q=>h W H0 σ B H ls s Q k w sm ?_⟩
 unfold mL at q
 cases e:m ls s with
 | ok ds s'=>
  rw [aP e] at q
  intro p vs B' H' g w' hn nv hb hp r
  have hs:Sub B' (upd B' p (.lst vs)):=bh hb
  refine q (.ref p) (upd B' p (.lst vs)) H' ⟨fun a o z=> ?_,g.bb.trans hs,g.hx,fun a o z im=> ?_⟩ (w'.U0 hb) (.lst upd_same (r.mono hs))
  ·by_cases ha:a=p
   ·subst ha
    rw [upd_same] at z
    cases z
    exact ⟨nv,Or.inl ⟨rfl,hp⟩⟩
   ·rw [upd_ne ha] at z
    exact g.kn a o z
  ·rw [upd_ne (ne_of_none z hn)]
   exact g.nw a o z im
 | exc C fs s'=>
  rw [aC e] at q
  exact q
 | stuck=>
  rw [aO e] at q
  exact q
end
variable {G:Gd}
section
variable {W:Wd}{K:PySem.W.Frag}{B H B1 H1:Hp}{Q Q1:VK}{E:XK}{s:DS}
theorem Ans.grow {r:Res D}(g:Gr W B H B1 H1) (h:Ans W K B H r Q E):Ans W K B1 H1 r Q E:=by
 cases r with
 | ok d s'=>exact fun v B' H' g' w r=>h v B' H' (g.trans g') w r
 | exc C fs s'=>exact fun od B' H' g' w x=>h od B' H' (g.trans g') w x
 | stuck=>exact h
theorem Ans.bind {ma:M D}{f:D→M D}(h:Ans W K B H (bnd ma f s) Q E)
  (hc:∀(d:D) (s':DS) (v:V) (B1 H1:Hp),Gr W B H B1 H1→W.ok s' B1 H1→Dv K B1 v d→Ans W K B1 H1 (f d s') Q E→Q1 v H1):Ans W K B H (ma s) Q1 E:=by
 cases e:ma s with
 | ok d s'=>
  rw [aP e] at h
  exact fun v B1 H1 g w r=>hc d s' v B1 H1 g w r (h.grow g)
 | exc C fs s'=>
  rw [aC e] at h
  exact h
 | stuck=>
  rw [aO e] at h
  exact h
theorem Ans.gD {ma:M D}{f:D→M D}(h:Ans W K B H (bnd ma f s) Q E)
  (hc:∀(d:D) (s':DS) (v:V) (B1 H1:Hp),Gr W B H B1 H1→W.ok s' B1 H1→Db W K B1 H1 v d→Ans W K B1 H1 (f d s') Q E→Q1 v H1):QD W K B H (ma s) Q1 E:=by
 cases e:ma s with
 | ok d s'=>
  rw [aP e] at h
  exact fun v B1 H1 g w r=>hc d s' v B1 H1 g w r (h.grow g)
 | exc C fs s'=>
  rw [aC e] at h
  exact h
 | stuck=>
  rw [aO e] at h
  exact h
theorem pX.grow {r:Res (List D)}(g:Gr W B H B1 H1) (w1:∃s1,W.ok s1 B1 H1) (h:pX W K B H r Q E):pX W K B1 H1 r Q E:=by
 cases r with
 | ok d s'=>
  refine fun p vs B' H' g' w hn nv hb hp r=>h p vs B' H' (g.trans g') w ?_ nv hb hp r
  exact g.nn nv hn
 | exc C fs s'=>exact fun od B' H' g' w x=>h od B' H' (g.trans g') w x
 | stuck=>exact h
theorem pX.gD {ma:M D}{f:D→M (List D)}(h:pX W K B H (bnd ma f s) Q E)
  (hc:∀(d:D) (s':DS) (v:V) (B1 H1:Hp),Gr W B H B1 H1→W.ok s' B1 H1→Db W K B1 H1 v d→pX W K B1 H1 (f d s') Q E→Q1 v H1):QD W K B H (ma s) Q1 E:=by
 cases e:ma s with
 | ok d s'=>
  rw [aP e] at h
  exact fun v B1 H1 g w r=>hc d s' v B1 H1 g w r (h.grow g ⟨_,w⟩)
 | exc C fs s'=>
  rw [aC e] at h
  exact h
 | stuck=>
  rw [aO e] at h
  exact h
theorem pX.bU {ds:List D}{vs:List V}{p:Addr}(h:pX W K B H (.ok ds s) Q E) (k:Kn W B H) (w:W.ok s B H) (hn:H p=none) (r:DvL K B vs ds):Q (.ref p) (upd H p (.lst vs)):=by
 have nv:¬W.gq p:=fun v=>by
  obtain ⟨o,e⟩:=w.dom v
  rw [e] at hn
  cases hn
 have nb:B p=none:=by
  cases e:B p with
  | none=>rfl
  | some o=>
   obtain ⟨u,z⟩:=k.ex e
   rw [z] at hn
   cases hn
 exact h p vs B _ (Gr.lay k hn) (w.st (bh hn)) hn nv nb upd_same r
theorem Ans.new_ {d:D}{p:Addr}{o:HO}(h:Ans W K B H (.ok d s) Q E) (k:Kn W B H) (w:W.ok s B H) (hn:H p=none) (r:Dv K (upd B p o) (.ref p) d) (g:o.gh=false:=by rfl):Q (.ref p) (upd H p o):=
 h (.ref p) _ _ (Gr.new k w hn g) ((w.st (bh hn)).U0 (cA k hn) g) r
theorem Ans.bU {d:D}{v:V}(h:Ans W K B H (.ok d s) Q E) (k:Kn W B H) (w:W.ok s B H) (r:Dv K B v d):Q v H:=h v B H (Gr.refl k) w r
end
section
variable {X:Cx}{Wx:WX}{a b c e:Expr}{es:List Expr}{ma mb mc me:bJ D}{pos:Pos}
theorem PE.or {t t':TE}(h:PE X e t) (h':PE X e t'):PE X e (fun σ H Q=>t σ H Q∨t' σ H Q):=
 ⟨fun pins s σ H Q I q=>q.elim (h.run pins s σ H Q I) (h'.run pins s σ H Q I)⟩
def au (i:Nat):bJ D:=fun ls=>match ls[i]? with
 | some (.va d)=>ret d
 | _=>stk
theorem aq {i:Nat}{x:Str}(hN:X.N[i]?=some x:=by rfl) (hv:Vis X.env.scope x:=by first | exact Or.inl rfl | exact Or.inr (Or.inl rfl) | exact Or.inr (Or.inr rfl)) (hd:(x==("__debug__" : Str))=false:=by decide)
  (hcd:(x==("__classdict__" : Str))=false:=by decide):SE G X Wx (.Name x pos) (au i):=by
 refine ⟨tVar i,pe_var hN hv hd hcd,fun W H0 σ B H ls s Q k w sm h=> ?_⟩
 unfold au at h
 cases e:ls[i]? with
 | none=>
  rw [e] at h
  exact (show False from h).elim
 | some sl=>
  rw [e] at h
  cases sl with
  | va d=>
   obtain ⟨ov,e1,v,rfl,r⟩:=sm.sl i _ e
   exact ⟨v,e1,h.bU k w r⟩
  | un=>exact (show False from h).elim
  | cl=>exact (show False from h).elim
  | od kvs=>exact (show False from h).elim
  | oi kvs=>exact (show False from h).elim
  | on kvs=>exact (show False from h).elim
  | bo d=>exact (show False from h).elim
  | bz d=>exact (show False from h).elim
  | ow ds=>exact (show False from h).elim
def iU (i:Nat):bJ D:=fun ls=>match ls[i]? with
 | some (.ow ds)=>ret (.lst ds)
 | some (.od kvs)=>ret (.DG kvs)
 | some (.oi kvs)=>ret (.Ei kvs)
 | some (.bo d)=>ret d
 | some (.bz d)=>ret d
 | _=>stk
theorem iw {i:Nat}{x:Str}(hN:X.N[i]?=some x:=by rfl) (hv:Vis X.env.scope x:=by first | exact Or.inl rfl | exact Or.inr (Or.inl rfl) | exact Or.inr (Or.inr rfl)) (hd:(x==("__debug__" : Str))=false:=by decide)
  (hcd:(x==("__classdict__" : Str))=false:=by decide):SO G X Wx (.Name x pos) (iU i):=by
 refine ⟨tVar i,pe_var hN hv hd hcd,fun W H0 σ B H ls s Q k w sm h=> ?_⟩
 unfold iU at h
 cases e:ls[i]? with
 | none=>
  rw [e] at h
  exact (show False from h).elim
 | some sl=>
  rw [e] at h
  cases sl with
  | ow ds=>
   obtain ⟨ov,e1,p,vs,rfl,nv,h0,hp,hb,r⟩:=sm.sl i _ e
   exact ⟨_,e1,h (.ref p) B H (Gr.refl k) w (Or.inr ⟨p,_,rfl,nv,hb,hp,.lst r⟩)⟩
  | un=>exact (show False from h).elim
  | cl=>exact (show False from h).elim
  | od kvs=>
   obtain ⟨ov,e1,p,ks,vs,ds,rfl,nv,h0,hp,hb,l,r,rfl⟩:=sm.sl i _ e
   exact ⟨_,e1,h (.ref p) B H (Gr.refl k) w (Or.inr ⟨p,_,rfl,nv,hb,hp,.dT l r⟩)⟩
  | oi kvs=>
   obtain ⟨ov,e1,p,ks,vs,ds,rfl,nv,h0,hp,hb,l,r,rfl⟩:=sm.sl i _ e
   exact ⟨_,e1,h (.ref p) B H (Gr.refl k) w (Or.inr ⟨p,_,rfl,nv,hb,hp,.dK l r⟩)⟩
  | on kvs=>exact (show False from h).elim
  | bo d=>
   obtain ⟨ov,e1,p,u,rfl,nv,hp,hb,r⟩:=sm.sl i _ e
   refine ⟨_,e1,h (.ref p) B H (Gr.refl k) w ?_⟩
   rcases hb with ⟨hb,_⟩ | ⟨hb,q⟩
   ·exact Or.inr ⟨p,u,rfl,nv,hb,hp,r⟩
   ·exact Or.inl q
  | bz d=>
   obtain ⟨ov,e1,p,u,rfl,nv,hp,hb,r⟩:=sm.sl i _ e
   refine ⟨_,e1,h (.ref p) B H (Gr.refl k) w ?_⟩
   rcases hb with ⟨hb,_⟩ | ⟨hb,q⟩
   ·exact Or.inr ⟨p,u,rfl,nv,hb,hp,r.1⟩
   ·exact Or.inl q
  | va ds=>exact (show False from h).elim
theorem aG {i:Int}{j}:SE G X Wx (.Constant (.int i) j pos) (fun _=>ret (.int i)):=⟨_,pe_int,fun W H0 σ B H ls s Q k w sm h=>h.bU k w (.int i)⟩
theorem xM {i:Bool}{j}:SE G X Wx (.Constant (.bool i) j pos) (fun _=>ret (.bl i)):=⟨_,pe_bl,fun W H0 σ B H ls s Q k w sm h=>h.bU k w (.bl i)⟩
theorem jQ {j}:SE G X Wx (.Constant .none j pos) (fun _=>ret .non):=⟨_,pe_non,fun W H0 σ B H ls s Q k w sm h=>h.bU k w .non⟩
theorem aY {x:Str}{j}:SE G X Wx (.Constant (.str x) j pos) (fun _=>ret (.str x)):=⟨_,pe_str,fun W H0 σ B H ls s Q k w sm h=>h.bU k w (.str x)⟩
theorem gM {x:Str}{v:V}{u:Value}{d:D}(hg:Gl X x) (hm:X.mg x=some u) (r:RelV v u) (q:∀B,Dv X.K B v d) (hd:(x==("__debug__" : Str))=false:=by decide):SE G X Wx (.Name x pos) (fun _=>ret d):=
 ⟨_,pe_glob hg hm r hd,fun W H0 σ B H ls s Q k w sm h=>h.bU k w (q B)⟩
theorem nZ {x:Str}{v:V}{u:Value}(hg:Gl X x) (hm:X.mg x=none) (hv:bootBuiltins x=some u) (r:RelV v u) (hn:x ≠ "__name__" :=by decide) (hd:(x==("__debug__" : Str))=false:=by decide):SE G X Wx (.Name x pos) (fun _=>ret (.raw v)):=
 ⟨_,pe_bltn hg hm hv r hn hd,fun W H0 σ B H ls s Q k w sm h=>h.bU k w (.raw v)⟩
structure Op2 (X:Cx) (f:Value→Value→Sem Value) (op:D→D→M D):Prop where
 ex:∃r,OpR X f r∧∀(W:Wd) (B H:Hp) (s:DS) (x y:V) (dx dy:D) (Q:VK) (E:XK),Kn W B H→W.ok s B H→Dw X.K B H x dx→Dw X.K B H y dy→Ans W X.K B H (op dx dy s) Q E→r x y H Q
def m2 (op:D→D→M D) (ma mb:bJ D):bJ D:=fun ls=>bnd (ma ls) fun x=>bnd (mb ls) fun y=>op x y
theorem cH {op:Operator}{f:D→D→M D}(ho:Op2 X (binaryOp op) f) (ha:SO G X Wx a ma) (hb:SO G X Wx b mb):SE G X Wx (.BinOp a op b pos) (m2 f ma mb):=by
 obtain ⟨r,pr,hr⟩:=ho.ex
 obtain ⟨ta,pa,ha⟩:=ha.ex
 obtain ⟨tb,pb,hb⟩:=hb.ex
 refine ⟨_,pe_op pr pa pb,fun W H0 σ B H ls s Q k w sm h=> ?_⟩
 refine ha W H0 σ B H ls s _ k w sm (h.gD fun dx s1 x B1 H1 g1 w1 rx h1=> ?_)
 refine hb W H0 σ B1 H1 ls s1 _ g1.kn w1 (sm.grow g1) (h1.gD fun dy s2 y B2 H2 g2 w2 ry h2=> ?_)
 exact hr W B2 H2 s2 x y dx dy Q _ g2.kn w2 (rx.grow g2).w ry.w h2
theorem mK {op:CmpOp}{f:D→D→M D}(ho:Op2 X (compareOp op) f) (ha:SO G X Wx a ma) (hb:SO G X Wx b mb) (hm:behindInMarks op b=false:=by first | rfl | exact nomark _ | with_unfolding_all rfl):SE G X Wx (.Compare a [op] [b] pos) (m2 f ma mb):=by
 obtain ⟨r,pr,hr⟩:=ho.ex
 obtain ⟨ta,pa,ha⟩:=ha.ex
 obtain ⟨tb,pb,hb⟩:=hb.ex
 refine ⟨_,pe_cmpR pr pa pb hm,fun W H0 σ B H ls s Q k w sm h=> ?_⟩
 refine ha W H0 σ B H ls s _ k w sm (h.gD fun dx s1 x B1 H1 g1 w1 rx h1=> ?_)
 refine hb W H0 σ B1 H1 ls s1 _ g1.kn w1 (sm.grow g1) (h1.gD fun dy s2 y B2 H2 g2 w2 ry h2=> ?_)
 exact hr W B2 H2 s2 x y dx dy Q _ g2.kn w2 (rx.grow g2).w ry.w h2
def Pu (d:D) (t f:M D):M D:=match d with
 | .bl true=>t
 | .bl false=>f
 | _=>stk
def o9 (f g:D→D→M D) (ma mb mc:bJ D):bJ D:=fun ls=>bnd (ma ls) fun x=>bnd (mb ls) fun y=>bnd (f x y) fun z=>Pu z (bnd (mc ls) fun u=>g y u) (ret (.bl false))
theorem Hf {op op':CmpOp}{f g:D→D→M D}(ho:Op2 X (compareOp op) f) (ho':Op2 X (compareOp op') g) (ha:SO G X Wx a ma) (hb:SO G X Wx b mb) (hc:SO G X Wx c mc)
  (hm:lastMarks [op,op'] [b,c]=false:=by with_unfolding_all rfl):SE G X Wx (.Compare a [op,op'] [b,c] pos) (o9 f g ma mb mc):=by
 obtain ⟨r,pr,hr⟩:=ho.ex
 obtain ⟨r',pr',hr'⟩:=ho'.ex
 obtain ⟨ta,pa,ha⟩:=ha.ex
 obtain ⟨tb,pb,hb⟩:=hb.ex
 obtain ⟨tc,pc,hc⟩:=hc.ex
 refine ⟨_,pe_chain pr pr' pa pb pc hm,fun W H0 σ B H ls s Q k w sm h=> ?_⟩
 refine ha W H0 σ B H ls s _ k w sm (h.gD fun dx s1 x B1 H1 g1 w1 rx h1=> ?_)
 refine hb W H0 σ B1 H1 ls s1 _ g1.kn w1 (sm.grow g1) (h1.gD fun dy s2 y B2 H2 g2 w2 ry h2=> ?_)
 refine hr W B2 H2 s2 x y dx dy _ _ g2.kn w2 (rx.grow g2).w ry.w (h2.bind fun dz s3 z B3 H3 g3 w3 rz h3=> ?_)
 unfold Pu at h3
 split at h3
 ·cases rz
  refine ⟨true,rfl,?_⟩
  rw [if_pos rfl]
  refine hc W H0 σ B3 H3 ls s3 _ g3.kn w3 (((sm.grow g1).grow g2).grow g3) (h3.gD fun du s4 u B4 H4 g4 w4 ru h4=> ?_)
  exact hr' W B4 H4 s4 y u dy du Q _ g4.kn w4 ((ry.grow g3).grow g4).w ru.w h4
 ·cases rz
  refine ⟨false,rfl,?_⟩
  rw [if_neg (by decide)]
  exact h3.bU g3.kn w3 (.bl false)
 ·exact h3.elim
def xH (ma mb:bJ D):bJ D:=fun ls=>bnd (ma ls) fun x=>Pu x (mb ls) (ret (.bl false))
def mOr (ma mb:bJ D):bJ D:=fun ls=>bnd (ma ls) fun x=>Pu x (ret (.bl true)) (mb ls)
def WM (ma:bJ D):bJ D:=fun ls=>bnd (ma ls) fun x=>Pu x (ret (.bl false)) (ret (.bl true))
theorem lD {op} (h:SE G X Wx a ma):SE G X Wx (.BoolOp op [a] pos) ma:=by
 obtain ⟨t,p,h⟩:=h.ex
 exact ⟨t,pe_one p,h⟩
theorem jV {rest:List Expr}(ha:SE G X Wx a ma) (hb:SE G X Wx (.BoolOp .And (b::rest) pos) mb):SE G X Wx (.BoolOp .And (a::b::rest) pos) (xH ma mb):=by
 obtain ⟨ta,pa,ha⟩:=ha.ex
 obtain ⟨tb,pb,hb⟩:=hb.ex
 refine ⟨_,pe_and pa pb,fun W H0 σ B H ls s Q k w sm h=> ?_⟩
 refine ha W H0 σ B H ls s _ k w sm (h.bind fun dx s1 x B1 H1 g1 w1 rx h1=> ?_)
 unfold Pu at h1
 split at h1
 ·cases rx
  refine ⟨true,rfl,?_⟩
  rw [if_pos rfl]
  exact hb W H0 σ B1 H1 ls s1 _ g1.kn w1 (sm.grow g1) h1
 ·cases rx
  refine ⟨false,rfl,?_⟩
  rw [if_neg (by decide)]
  exact h1.bU g1.kn w1 (.bl false)
 ·exact h1.elim
theorem acF {rest:List Expr}(ha:SE G X Wx a ma) (hb:SE G X Wx (.BoolOp .Or (b::rest) pos) mb):SE G X Wx (.BoolOp .Or (a::b::rest) pos) (mOr ma mb):=by
 obtain ⟨ta,pa,ha⟩:=ha.ex
 obtain ⟨tb,pb,hb⟩:=hb.ex
 refine ⟨_,pe_or pa pb,fun W H0 σ B H ls s Q k w sm h=> ?_⟩
 refine ha W H0 σ B H ls s _ k w sm (h.bind fun dx s1 x B1 H1 g1 w1 rx h1=> ?_)
 unfold Pu at h1
 split at h1
 ·cases rx
  refine ⟨true,rfl,?_⟩
  rw [if_pos rfl]
  exact h1.bU g1.kn w1 (.bl true)
 ·cases rx
  refine ⟨false,rfl,?_⟩
  rw [if_neg (by decide)]
  exact hb W H0 σ B1 H1 ls s1 _ g1.kn w1 (sm.grow g1) h1
 ·exact h1.elim
theorem Qt (ha:SE G X Wx a ma):SE G X Wx (.UnaryOp .Not a pos) (WM ma):=by
 obtain ⟨ta,pa,ha⟩:=ha.ex
 refine ⟨_,pe_not pa,fun W H0 σ B H ls s Q k w sm h=> ?_⟩
 refine ha W H0 σ B H ls s _ k w sm (h.bind fun dx s1 x B1 H1 g1 w1 rx h1=> ?_)
 unfold Pu at h1
 split at h1
 ·cases rx
  exact ⟨true,rfl,h1.bU g1.kn w1 (.bl false)⟩
 ·cases rx
  exact ⟨false,rfl,h1.bU g1.kn w1 (.bl true)⟩
 ·exact h1.elim
def rB (W:Wd) (K:PySem.W.Frag) (B H:Hp) (r:Res Bool) (Q:Bool→Hp→Prop) (E:XK):Prop:=match r with
 | .ok b s'=>∀(B' H':Hp),Gr W B H B' H'→W.ok s' B' H'→Q b H'
 | .exc C fs s'=>XW W K B H C fs s' E
 | .stuck=>False
structure ST (G:Gd) (X:Cx) (Wx:WX) (e:Expr) (m:bJ Bool):Prop where
 ex:∃t,PT X e t∧∀(W:Wd) (H0:Hp) (σ:L2.St) (B H:Hp) (ls:List Sl) (s:DS) (Q:Bool→Hp→Prop),Kn W B H→W.ok s B H→Sm G W X.K H0 B H σ ls→rB W X.K B H (m ls s) Q (fun c d H'=>Wx c d σ H')→t σ H Q
structure STw (G:Gd) (X:Cx) (Wx:WX) (e:Expr) (m:bJ Bool):Prop where
 ex:∃t,PW X e t∧∀(W:Wd) (H0:Hp) (σ:L2.St) (B H:Hp) (ls:List Sl) (s:DS) (Q:Bool→Hp→Prop),Kn W B H→W.ok s B H→Sm G W X.K H0 B H σ ls→rB W X.K B H (m ls s) Q (fun c d H'=>Wx c d σ H')→t σ H Q
end
section
variable {W:Wd}{K:PySem.W.Frag}{B H B1 H1:Hp}{Q:Bool→Hp→Prop}{E:XK}{s:DS}
theorem rB.grow {r:Res Bool}(g:Gr W B H B1 H1) (h:rB W K B H r Q E):rB W K B1 H1 r Q E:=by
 cases r with
 | ok d s'=>exact fun B' H' g' w=>h B' H' (g.trans g') w
 | exc C fs s'=>exact fun od B' H' g' w x=>h od B' H' (g.trans g') w x
 | stuck=>exact h
theorem rB.bind {ma:M D}{f:D→M Bool}{Q1:VK}(h:rB W K B H (bnd ma f s) Q E)
  (hc:∀(d:D) (s':DS) (v:V) (B1 H1:Hp),Gr W B H B1 H1→W.ok s' B1 H1→Dv K B1 v d→rB W K B1 H1 (f d s') Q E→Q1 v H1):Ans W K B H (ma s) Q1 E:=by
 cases e:ma s with
 | ok d s'=>
  rw [aP e] at h
  exact fun v B1 H1 g w r=>hc d s' v B1 H1 g w r (h.grow g)
 | exc C fs s'=>
  rw [aC e] at h
  exact h
 | stuck=>
  rw [aO e] at h
  exact h
theorem rB.gD {ma:M D}{f:D→M Bool}{Q1:VK}(h:rB W K B H (bnd ma f s) Q E)
  (hc:∀(d:D) (s':DS) (v:V) (B1 H1:Hp),Gr W B H B1 H1→W.ok s' B1 H1→Db W K B1 H1 v d→rB W K B1 H1 (f d s') Q E→Q1 v H1):QD W K B H (ma s) Q1 E:=by
 cases e:ma s with
 | ok d s'=>
  rw [aP e] at h
  exact fun v B1 H1 g w r=>hc d s' v B1 H1 g w r (h.grow g)
 | exc C fs s'=>
  rw [aC e] at h
  exact h
 | stuck=>
  rw [aO e] at h
  exact h
theorem rB.bindB {ma:M Bool}{f:Bool→M Bool}{Q1:Bool→Hp→Prop}(h:rB W K B H (bnd ma f s) Q E)
  (hc:∀(b:Bool) (s':DS) (B1 H1:Hp),Gr W B H B1 H1→W.ok s' B1 H1→rB W K B1 H1 (f b s') Q E→Q1 b H1):rB W K B H (ma s) Q1 E:=by
 cases e:ma s with
 | ok d s'=>
  rw [aP e] at h
  exact fun B1 H1 g w=>hc d s' B1 H1 g w (h.grow g)
 | exc C fs s'=>
  rw [aC e] at h
  exact h
 | stuck=>
  rw [aO e] at h
  exact h
theorem Ans.bindB {ma:M Bool}{f:Bool→M D}{Q:VK}{Q1:Bool→Hp→Prop}(h:Ans W K B H (bnd ma f s) Q E)
  (hc:∀(b:Bool) (s':DS) (B1 H1:Hp),Gr W B H B1 H1→W.ok s' B1 H1→Ans W K B1 H1 (f b s') Q E→Q1 b H1):rB W K B H (ma s) Q1 E:=by
 cases e:ma s with
 | ok d s'=>
  rw [aP e] at h
  exact fun B1 H1 g w=>hc d s' B1 H1 g w (h.grow g)
 | exc C fs s'=>
  rw [aC e] at h
  exact h
 | stuck=>
  rw [aO e] at h
  exact h
theorem rB.bU {b:Bool}(h:rB W K B H (.ok b s) Q E) (k:Kn W B H) (w:W.ok s B H):Q b H:=h B H (Gr.refl k) w
end
section
variable {X:Cx}{Wx:WX}{a b c e:Expr}{es:List Expr}{ma mb mc me:bJ D}{na nb:bJ Bool}{pos:Pos}
def cQ (d:D):M Bool:=match d with
 | .non=>ret false
 | .bl b=>ret b
 | .int i=>ret (i != 0)
 | .str y=>if y.length≤sizeLine then ret ((y.length:Int) != 0) else stk
 | .lst xs=>ret (!xs.isEmpty)
 | .tup xs=>ret (!xs.isEmpty)
 | _=>stk
theorem DvL.empty {K:PySem.W.Frag}{H:Hp}{vs:List V}{ds:List D}(h:DvL K H vs ds):vs.isEmpty=ds.isEmpty:=by
 cases h<;>rfl
theorem bV (ha:SO G X Wx a ma) (he:∀whole,isTrue a X.env whole=(do let v ←whole;standAt a.pos;holding [v] (truthy v)):=by intro _;rfl):ST G X Wx a (fun ls=>bnd (ma ls) cQ):=by
 obtain ⟨ta,pa,ha⟩:=ha.ex
 refine ⟨_,pt_truth pa he,fun W H0 σ B H ls s Q k w sm h=> ?_⟩
 refine ha W H0 σ B H ls s _ k w sm (h.gD fun dx s1 x B1 H1 g1 w1 rx h1=> ?_)
 rcases rx with rx | ⟨p,u,rfl,nv,hb,hp,r⟩
 ·unfold cQ at h1
  split at h1
  ·cases rx;exact ⟨false,rfl,h1.bU g1.kn w1⟩
  ·cases rx;exact ⟨_,rfl,h1.bU g1.kn w1⟩
  ·cases rx;exact ⟨_,rfl,h1.bU g1.kn w1⟩
  ·cases rx
   split at h1
   ·rename_i hl
    exact ⟨_,⟨hl,rfl⟩,h1.bU g1.kn w1⟩
   ·exact h1.elim
  ·cases rx with
   | lst hs r=>exact ⟨_,Or.inl ⟨_,SqL.of (g1.kn.get hs),rfl⟩,by rw [r.empty];exact h1.bU g1.kn w1⟩
  ·cases rx with
   | tup hs r=>exact ⟨_,Or.inr (Or.inl ⟨_,g1.kn.t hs,rfl⟩),by rw [r.empty];exact h1.bU g1.kn w1⟩
  ·exact h1.elim
 ·cases r with
  | lst r=>exact ⟨_,Or.inl ⟨_,SqL.of hp,rfl⟩,by rw [r.empty];exact h1.bU g1.kn w1⟩
  | _=>exact (show False from h1).elim
def jR (d:D):M Bool:=match d with
 | .bl b=>ret b
 | _=>stk
theorem eE {op:CmpOp}{f:D→D→M D}(ho:Op2 X (compareOp op) f) (ha:SO G X Wx a ma) (hb:SO G X Wx b mb) (hm:behindInMarks op b=false:=by first | rfl | exact nomark _ | with_unfolding_all rfl):ST G X Wx (.Compare a [op] [b] pos) (fun ls=>bnd (m2 f ma mb ls) jR):=by
 obtain ⟨r,pr,hr⟩:=ho.ex
 obtain ⟨ta,pa,ha⟩:=ha.ex
 obtain ⟨tb,pb,hb⟩:=hb.ex
 refine ⟨_,pt_cmpR pr pa pb hm,fun W H0 σ B H ls s Q k w sm h=> ?_⟩
 unfold m2 at h
 rw [pF] at h
 refine ha W H0 σ B H ls s _ k w sm (h.gD fun dx s1 x B1 H1 g1 w1 rx h1=> ?_)
 rw [pF] at h1
 refine hb W H0 σ B1 H1 ls s1 _ g1.kn w1 (sm.grow g1) (h1.gD fun dy s2 y B2 H2 g2 w2 ry h2=> ?_)
 refine hr W B2 H2 s2 x y dx dy _ _ g2.kn w2 (rx.grow g2).w ry.w (h2.bind fun dz s3 z B3 H3 g3 w3 rz h3=> ?_)
 unfold jR at h3
 split at h3
 ·cases rz
  exact ⟨_,rfl,h3.bU g3.kn w3⟩
 ·exact h3.elim
theorem Pj {op op':CmpOp}{f g:D→D→M D}(ho:Op2 X (compareOp op) f) (ho':Op2 X (compareOp op') g) (ha:SO G X Wx a ma) (hb:SO G X Wx b mb) (hc:SO G X Wx c mc)
  (hm:lastMarks [op,op'] [b,c]=false:=by with_unfolding_all rfl):ST G X Wx (.Compare a [op,op'] [b,c] pos) (fun ls=>bnd (o9 f g ma mb mc ls) jR):=by
 obtain ⟨r,pr,hr⟩:=ho.ex
 obtain ⟨r',pr',hr'⟩:=ho'.ex
 obtain ⟨ta,pa,ha⟩:=ha.ex
 obtain ⟨tb,pb,hb⟩:=hb.ex
 obtain ⟨tc,pc,hc⟩:=hc.ex
 refine ⟨_,pt_chain pr pr' pa pb pc hm,fun W H0 σ B H ls s Q k w sm h=> ?_⟩
 unfold o9 at h
 rw [pF] at h
 refine ha W H0 σ B H ls s _ k w sm (h.gD fun dx s1 x B1 H1 g1 w1 rx h1=> ?_)
 rw [pF] at h1
 refine hb W H0 σ B1 H1 ls s1 _ g1.kn w1 (sm.grow g1) (h1.gD fun dy s2 y B2 H2 g2 w2 ry h2=> ?_)
 rw [pF] at h2
 refine hr W B2 H2 s2 x y dx dy _ _ g2.kn w2 (rx.grow g2).w ry.w (h2.bind fun dz s3 z B3 H3 g3 w3 rz h3=> ?_)
 unfold Pu at h3
 split at h3
 ·cases rz
  refine ⟨true,rfl,?_⟩
  rw [if_pos rfl]
  rw [pF] at h3
  refine hc W H0 σ B3 H3 ls s3 _ g3.kn w3 (((sm.grow g1).grow g2).grow g3) (h3.gD fun du s4 u B4 H4 g4 w4 ru h4=> ?_)
  refine hr' W B4 H4 s4 y u dy du _ _ g4.kn w4 ((ry.grow g3).grow g4).w ru.w (h4.bind fun dz s5 z B5 H5 g5 w5 rz h5=> ?_)
  unfold jR at h5
  split at h5
  ·cases rz
   exact ⟨_,rfl,h5.bU g5.kn w5⟩
  ·exact h5.elim
 ·cases rz
  refine ⟨false,rfl,?_⟩
  rw [if_neg (by decide)]
  exact ⟨false,rfl,h3.bU g3.kn w3⟩
 ·exact (show False from h3).elim
def Zo (ma mb:bJ Bool):bJ Bool:=fun ls=>bnd (ma ls) fun x=>if x=true then mb ls else ret false
def J5 (ma mb:bJ Bool):bJ Bool:=fun ls=>bnd (ma ls) fun x=>if x=true then ret true else mb ls
def d7 (ma:bJ Bool):bJ Bool:=fun ls=>bnd (ma ls) fun x=>ret (!x)
theorem Vg (ha:ST G X Wx a na):STw G X Wx (.BoolOp .And [a] pos) na:=by
 obtain ⟨t,p,h⟩:=ha.ex
 exact ⟨t,pw_and1 p,h⟩
theorem jD (ha:ST G X Wx a na):STw G X Wx (.BoolOp .Or [a] pos) na:=by
 obtain ⟨t,p,h⟩:=ha.ex
 exact ⟨t,pw_or1 p,h⟩
theorem Z6 {rest:List Expr}(ha:ST G X Wx a na) (hb:STw G X Wx (.BoolOp .And (b::rest) pos) nb):STw G X Wx (.BoolOp .And (a::b::rest) pos) (Zo na nb):=by
 obtain ⟨ta,pa,ha⟩:=ha.ex
 obtain ⟨tb,pb,hb⟩:=hb.ex
 refine ⟨_,pw_and pa pb,fun W H0 σ B H ls s Q k w sm h=> ?_⟩
 refine ha W H0 σ B H ls s _ k w sm (h.bindB fun x s1 B1 H1 g1 w1 h1=> ?_)
 cases x with
 | true=>
  rw [if_pos rfl] at h1 ⊢
  exact hb W H0 σ B1 H1 ls s1 _ g1.kn w1 (sm.grow g1) h1
 | false=>
  rw [if_neg (by decide)] at h1 ⊢
  exact h1.bU g1.kn w1
theorem oW {rest:List Expr}(ha:ST G X Wx a na) (hb:STw G X Wx (.BoolOp .Or (b::rest) pos) nb):STw G X Wx (.BoolOp .Or (a::b::rest) pos) (J5 na nb):=by
 obtain ⟨ta,pa,ha⟩:=ha.ex
 obtain ⟨tb,pb,hb⟩:=hb.ex
 refine ⟨_,pw_or pa pb,fun W H0 σ B H ls s Q k w sm h=> ?_⟩
 refine ha W H0 σ B H ls s _ k w sm (h.bindB fun x s1 B1 H1 g1 w1 h1=> ?_)
 cases x with
 | true=>
  rw [if_pos rfl] at h1 ⊢
  exact h1.bU g1.kn w1
 | false=>
  rw [if_neg (by decide)] at h1 ⊢
  exact hb W H0 σ B1 H1 ls s1 _ g1.kn w1 (sm.grow g1) h1
theorem STw.st (h:STw G X Wx a na):ST G X Wx a na:=by
 obtain ⟨t,p,h⟩:=h.ex
 exact ⟨t,p.pt,h⟩
theorem dD (ha:ST G X Wx a na):ST G X Wx (.UnaryOp .Not a pos) (d7 na):=by
 obtain ⟨ta,pa,ha⟩:=ha.ex
 refine ⟨_,pt_not pa,fun W H0 σ B H ls s Q k w sm h=> ?_⟩
 exact ha W H0 σ B H ls s _ k w sm (h.bindB fun x s1 B1 H1 g1 w1 h1=>h1.bU g1.kn w1)
def Jf (n:bJ Bool) (ma mb:bJ D):bJ D:=fun ls=>bnd (n ls) fun x=>if x=true then ma ls else mb ls
theorem Iu (hc:ST G X Wx c na) (ha:SE G X Wx a ma) (hb:SE G X Wx b mb):SE G X Wx (.IfExp c a b pos) (Jf na ma mb):=by
 obtain ⟨tc,pc,hc⟩:=hc.ex
 obtain ⟨ta,pa,ha⟩:=ha.ex
 obtain ⟨tb,pb,hb⟩:=hb.ex
 refine ⟨_,pe_ifExp pc pa pb,fun W H0 σ B H ls s Q k w sm h=> ?_⟩
 refine hc W H0 σ B H ls s _ k w sm (h.bindB fun x s1 B1 H1 g1 w1 h1=> ?_)
 cases x with
 | true=>
  rw [if_pos rfl] at h1 ⊢
  exact ha W H0 σ B1 H1 ls s1 _ g1.kn w1 (sm.grow g1) h1
 | false=>
  rw [if_neg (by decide)] at h1 ⊢
  exact hb W H0 σ B1 H1 ls s1 _ g1.kn w1 (sm.grow g1) h1
end
variable {G:Gd}
mutual
def D.pd:D→Option PyData
 | .non=>some .none
 | .bl b=>some (.bool b)
 | .int i=>some (.int i)
 | .str s=>some (.str s)
 | .lst xs=>(D.tM xs).map .list
 | .tup xs=>(D.tM xs).map .tuple
 | .qb xs=>(D.tM xs).map .tuple
 | _=>none
def D.tM:List D→Option (List PyData)
 | []=>some []
 | x::xs=>match D.pd x,D.tM xs with
  | some a,some r=>some (a::r)
  | _,_=>none
end
mutual
theorem D.Lp:∀{d:D}{p:PyData},d.pd=some p→d.sol=true
 | .non,_,_=>rfl
 | .bl b,_,_=>rfl
 | .int i,_,_=>rfl
 | .str s,_,_=>rfl
 | .lst xs,_,e=>by
  unfold D.pd at e
  cases q:D.tM xs with
  | none=>rw [q] at e;cases e
  | some l=>unfold D.sol;exact D.EY q
 | .tup xs,_,e=>by
  unfold D.pd at e
  cases q:D.tM xs with
  | none=>rw [q] at e;cases e
  | some l=>unfold D.sol;exact D.EY q
 | .qb xs,_,e=>by
  unfold D.pd at e
  cases q:D.tM xs with
  | none=>rw [q] at e;cases e
  | some l=>unfold D.sol;exact D.EY q
 | .dct _,_,e=>by unfold D.pd at e;cases e
 | .Ei _,_,e=>by unfold D.pd at e;cases e
 | .DG _,_,e=>by unfold D.pd at e;cases e
 | .dtn _,_,e=>by unfold D.pd at e;cases e
 | .exc _ _,_,e=>by unfold D.pd at e;cases e
 | .raw _,_,_=>rfl
 | .scr _,_,_=>rfl
 | .sref _,_,e=>by unfold D.pd at e;cases e
theorem D.EY:∀{ds:List D}{ps:List PyData},D.tM ds=some ps→D.Jk ds=true
 | [],_,_=>rfl
 | x::xs,_,e=>by
  unfold D.tM at e
  cases q:x.pd with
  | none=>rw [q] at e;cases e
  | some a=>
   cases q2:D.tM xs with
   | none=>rw [q,q2] at e;cases e
   | some l=>unfold D.Jk;rw [D.Lp q,D.EY q2];rfl
end
section
variable {K:PySem.W.Frag}{H:Hp}
mutual
theorem Dv.dp:∀{v:V}{d:D}{p:PyData},Dv K H v d→d.pd=some p→Dp K H v p
 | _,_,_,.non,e=>by cases e;exact .non
 | _,_,_,.bl b,e=>by cases e;exact .bl b
 | _,_,_,.int i,e=>by cases e;exact .int i
 | _,_,_,.str x,e=>by cases e;exact .str x
 | _,_,_,.lst (ds:=ds) h r,e=>by
  unfold D.pd at e
  cases q:D.tM ds with
  | none=>rw [q] at e;cases e
  | some l=>rw [q] at e;cases e;exact .lst (SqL.of h) (DvL.dp r q)
 | _,_,_,.tup (ds:=ds) h r,e=>by
  unfold D.pd at e
  cases q:D.tM ds with
  | none=>rw [q] at e;cases e
  | some l=>rw [q] at e;cases e;exact .tup (SqT.of h) (DvL.dp r q)
 | _,_,_,.qb (o:=o) (ds:=ds) h _ r,e=>by
  unfold D.pd at e
  cases q:D.tM ds with
  | none=>rw [q] at e;cases e
  | some l=>rw [q] at e;cases e;exact .tup (Or.inl (Or.inr ⟨o,h⟩)) (DvL.dp r q)
 | _,_,_,.dcE h,e=>by unfold D.pd at e;cases e
 | _,_,_,.dcK h _ _,e=>by unfold D.pd at e;cases e
 | _,_,_,.dcT h _ _,e=>by unfold D.pd at e;cases e
 | _,_,_,.dcN h _ _,e=>by unfold D.pd at e;cases e
 | _,_,_,.raw v,e=>by unfold D.pd at e;cases e
 | _,_,_,.scr _,e=>by unfold D.pd at e;cases e
 | _,_,_,.sref _,e=>by unfold D.pd at e;cases e
 | _,_,_,.exc _ _ _ _,e=>by unfold D.pd at e;cases e
theorem DvL.dp:∀{vs:List V}{ds:List D}{ps:List PyData},DvL K H vs ds→D.tM ds=some ps→DpAll K H vs ps
 | _,_,_,.nil,e=>by cases e;exact .nil
 | _,_,_,.cons (d:=d) (ds:=ds) a r,e=>by
  unfold D.tM at e
  cases q:d.pd with
  | none=>rw [q] at e;cases e
  | some x=>
   cases q2:D.tM ds with
   | none=>rw [q,q2] at e;cases e
   | some l=>rw [q,q2] at e;cases e;exact .cons (Dv.dp a q) (DvL.dp r q2)
end
end
section
variable {W:Wd}{K:PySem.W.Frag}{B H:Hp}{v:V}{d:D}{p:PyData}
theorem Dw.dp (k:Kn W B H) (h:Dw K B H v d) (e:d.pd=some p):Dp K H v p:=by
 rcases h with h | ⟨a,u,rfl,hp,r⟩
 ·exact ((h.Fe (D.Lp e)).mono k.sub).dp e
 ·cases r with
  | lst r=>exact Dv.dp (.lst hp ((r.Fe (by have z:=D.Lp e;unfold D.sol at z;exact z)).mono k.sub)) e
  | _=>have z:=D.Lp e;unfold D.sol at z;cases z
theorem Dw.int {i:Int}(h:Dw K B H v (.int i)):v = .int i:=by
 rcases h with h | ⟨a,u,rfl,hp,r⟩
 ·cases h;rfl
 ·cases r
theorem Dw.str {i:Str}(h:Dw K B H v (.str i)):v = .str i:=by
 rcases h with h | ⟨a,u,rfl,hp,r⟩
 ·cases h;rfl
 ·cases r
theorem Dw.bl {i:Bool}(h:Dw K B H v (.bl i)):v = .bl i:=by
 rcases h with h | ⟨a,u,rfl,hp,r⟩
 ·cases h;rfl
 ·cases r
theorem Dw.non (h:Dw K B H v .non):v = .non:=by
 rcases h with h | ⟨a,u,rfl,hp,r⟩
 ·cases h;rfl
 ·cases r
theorem Dw.raw {x:V}(h:Dw K B H v (.raw x)):v=x:=by
 rcases h with h | ⟨a,u,rfl,hp,r⟩
 ·cases h;rfl
 ·cases r
theorem Dw.tup {xs:List D}(h:Dw K B H v (.tup xs)):∃a vs,v = .ref a∧B a=some (.tup vs)∧DvL K B vs xs:=by
 rcases h with h | ⟨a,u,rfl,hp,r⟩
 ·cases h with | tup hs r=>exact ⟨_,_,rfl,hs,r⟩
 ·cases r
theorem Dw.qb {xs:List D}(h:Dw K B H v (.qb xs)):∃a o vs,v = .ref a∧B a=some (.frz o (.tup vs))∧o.dict=none∧DvL K B vs xs:=by
 rcases h with h | ⟨a,u,rfl,hp,r⟩
 ·cases h with | qb hs hd r=>exact ⟨_,_,_,rfl,hs,hd,r⟩
 ·cases r
theorem Dw.lst {xs:List D}(k:Kn W B H) (h:Dw K B H v (.lst xs)):∃a vs,v = .ref a∧H a=some (.lst vs)∧DvL K B vs xs:=by
 rcases h with h | ⟨a,u,rfl,hp,r⟩
 ·cases h with | lst hs r=>exact ⟨_,_,rfl,k.get hs,r⟩
 ·cases r with | lst r=>exact ⟨a,_,rfl,hp,r⟩
def D.fix:D→Bool
 | .lst _=>false
 | .DG _=>false
 | .dtn _=>false
 | .Ei _=>false
 | _=>true
theorem Dw.dv (h:Dw K B H v d) (n:d.fix=true):Dv K B v d:=by
 rcases h with h | ⟨a,u,rfl,hp,r⟩
 ·exact h
 ·cases r<;>cases n
theorem Db.dp (k:Kn W B H) (h:Db W K B H v d) (e:d.pd=some p):Dp K H v p:=h.w.dp k e
theorem Db.int {i:Int}(h:Db W K B H v (.int i)):v = .int i:=h.w.int
theorem Db.str {i:Str}(h:Db W K B H v (.str i)):v = .str i:=h.w.str
theorem Db.bl {i:Bool}(h:Db W K B H v (.bl i)):v = .bl i:=h.w.bl
theorem Db.non (h:Db W K B H v .non):v = .non:=h.w.non
theorem Db.raw {x:V}(h:Db W K B H v (.raw x)):v=x:=h.w.raw
theorem Db.tup {xs:List D}(h:Db W K B H v (.tup xs)):∃a vs,v = .ref a∧B a=some (.tup vs)∧DvL K B vs xs:=h.w.tup
theorem Db.qb {xs:List D}(h:Db W K B H v (.qb xs)):∃a o vs,v = .ref a∧B a=some (.frz o (.tup vs))∧o.dict=none∧DvL K B vs xs:=h.w.qb
theorem Db.lst {xs:List D}(k:Kn W B H) (h:Db W K B H v (.lst xs)):∃a vs,v = .ref a∧H a=some (.lst vs)∧DvL K B vs xs:=h.w.lst k
theorem Db.dv (h:Db W K B H v d) (n:d.fix=true):Dv K B v d:=h.w.dv n
end
section
variable {X:Cx}
theorem Op2.mk' {f:Value→Value→Sem Value}{op:D→D→M D}{r:R2}(h:OpR X f r) (q:∀(W:Wd) (B H:Hp) (s:DS) (x y:V) (dx dy:D) (Q:VK) (E:XK),Kn W B H→W.ok s B H→Dw X.K B H x dx→Dw X.K B H y dy→Ans W X.K B H (op dx dy s) Q E→r x y H Q):Op2 X f op:=⟨r,h,q⟩
def iT:D→D→M D
 | .int i,.int j=>ret (.int (i+j))
 | .str a,.str b=>if a.length+b.length≤sizeLine then ret (.str (a++b)) else stk
 | .tup a,.tup b=>if a.length+b.length≤sizeLine then ret (.tup (a++b)) else stk
 | _,_=>stk
theorem jj:Op2 X (binaryOp .Add) iT:=by
 refine .mk' (op_add.or (op_add_str.or op_catA)) fun W B H s x y dx dy Q E k w rx ry h=> ?_
 unfold iT at h
 split at h
 ·rename_i i j
  exact Or.inl ⟨i,j,rx.int,ry.int,h.bU k w (.int _)⟩
 ·rename_i a b
  split at h
  ·rename_i hl
   exact Or.inr (Or.inl ⟨a,b,rx.str,ry.str,hl,h.bU k w (.str _)⟩)
  ·exact h.elim
 ·rename_i a b
  split at h
  ·rename_i hl
   obtain ⟨p,vs,rfl,h1,r1⟩:=rx.tup
   obtain ⟨q,us,rfl,h2,r2⟩:=ry.tup
   refine Or.inr (Or.inr ⟨p,q,vs,us,rfl,rfl,k.t h1,k.t h2,by rw [r1.len,r2.len];exact hl,fun e=> ?_,fun _ e=> ?_,fun _ _ c hc=> ?_⟩)
   ·subst e
    cases r1
    exact h.bU k w (.tup h2 r2)
   ·subst e
    cases r2
    rw [List.append_nil] at h
    exact h.bU k w (.tup h1 r1)
   ·exact h.new_ k w hc (.tup upd_same ((r1.app r2).mono (bh (cA k hc))))
  ·exact h.elim
 ·exact (show False from h).elim
def uR:D→D→M D
 | .int i,.int j=>ret (.int (i-j))
 | _,_=>stk
theorem DQ:Op2 X (binaryOp .Sub) uR:=by
 refine .mk' op_sub fun W B H s x y dx dy Q E k w rx ry h=> ?_
 unfold uR at h
 split at h
 ·exact ⟨_,_,rx.int,ry.int,h.bU k w (.int _)⟩
 ·exact (show False from h).elim
def mF:D→D→M D
 | .int i,.int j=>if (-(2^64)<i∧i<2^64)∨(-(2^64)<j∧j<2^64) then ret (.int (i*j)) else stk
 | .tup xs,.int k=>if xs≠[]∧2≤k∧k≤1000∧xs.length≤1000 then ret (.tup (List.replicate k.toNat xs).flatten) else stk
 | _,_=>stk
theorem DvL.rep {K:PySem.W.Frag}{H:Hp}{vs:List V}{ds:List D}(h:DvL K H vs ds):∀n:Nat,DvL K H (List.replicate n vs).flatten (List.replicate n ds).flatten
 | 0=> .nil
 | n+1=>by
  rw [List.replicate_succ,List.replicate_succ,List.flatten_cons,List.flatten_cons]
  exact h.app (DvL.rep h n)
theorem yV:Op2 X (binaryOp .Mult) mF:=by
 refine .mk' (op_mul.or op_repT) fun W B H s x y dx dy Q E k w rx ry h=> ?_
 unfold mF at h
 split at h
 ·split at h
  ·rename_i hc
   exact Or.inl ⟨_,_,rx.int,ry.int,hc,h.bU k w (.int _)⟩
  ·exact h.elim
 ·split at h
  ·rename_i hc
   obtain ⟨p,vs,rfl,h1,r1⟩:=rx.tup
   refine Or.inr ⟨p,_,vs,rfl,ry.int,k.t h1,fun e=>hc.1 ?_,hc.2.1,hc.2.2.1,by rw [r1.len];exact hc.2.2.2,fun c hn=> ?_⟩
   ·subst e
    cases r1
    rfl
   ·exact h.new_ k w hn (.tup upd_same ((r1.rep _).mono (bh (cA k hn))))
  ·exact h.elim
 ·exact (show False from h).elim
def R4:D→D→M D
 | .int i,.int j=>if 0<j∧j<1073741824 then ret (.int (i/j)) else stk
 | _,_=>stk
theorem abL:Op2 X (binaryOp .FloorDiv) R4:=by
 refine .mk' op_fdiv fun W B H s x y dx dy Q E k w rx ry h=> ?_
 unfold R4 at h
 split at h
 ·split at h
  ·rename_i hc
   exact ⟨_,_,rx.int,ry.int,hc,h.bU k w (.int _)⟩
  ·exact h.elim
 ·exact (show False from h).elim
def wI:D→D→M D
 | .int i,.int j=>if 0<j then ret (.int (i%j)) else stk
 | _,_=>stk
theorem JR:Op2 X (binaryOp .Mod) wI:=by
 refine .mk' op_mod fun W B H s x y dx dy Q E k w rx ry h=> ?_
 unfold wI at h
 split at h
 ·split at h
  ·rename_i hc
   exact ⟨_,_,rx.int,ry.int,hc,h.bU k w (.int _)⟩
  ·exact h.elim
 ·exact (show False from h).elim
def Qc:D→D→M D
 | .int i,.int j=>if 0≤j∧j≤1000000∧i.natAbs<2^64 then ret (.int (i^j.toNat)) else stk
 | _,_=>stk
theorem adn:Op2 X (binaryOp .Pow) Qc:=by
 refine .mk' op_pow fun W B H s x y dx dy Q E k w rx ry h=> ?_
 unfold Qc at h
 split at h
 ·split at h
  ·rename_i hc
   exact ⟨_,_,rx.int,ry.int,hc,h.bU k w (.int _)⟩
  ·exact h.elim
 ·exact (show False from h).elim
def K7 {α β γ:Type}(a:Option α) (b:Option β) (f:α→β→M γ):M γ:=match a,b with
 | some p,some q=>f p q
 | _,_=>stk
theorem uV {α β:Type}{W:Wd}{K:PySem.W.Frag}{B H:Hp}{a:Option α}{b:Option β}{f:α→β→M D}{s:DS}{Q:VK}{E:XK}(h:Ans W K B H (K7 a b f s) Q E):∃p q,a=some p∧b=some q∧Ans W K B H (f p q s) Q E:=by
 cases a with
 | none=>exact (show False from h).elim
 | some p=>
  cases b with
  | none=>exact (show False from h).elim
  | some q=>exact ⟨p,q,rfl,rfl,h⟩
def scD:D→D→Option Bool
 | .int i,.int j=>some (decide (i=j))
 | .str a,.str b=>some (decide (a=b))
 | _,_=>none
def v7 (x y:D):M D:=match scD x y with
 | some b=>ret (.bl b)
 | none=>K7 x.pd y.pd fun p q=>if SeqAt.shaped p=true∧SeqAt.shaped q=true then ret (.bl (PyData.eqv p q)) else stk
def Jx (x y:D):M D:=match scD x y with
 | some b=>ret (.bl (!b))
 | none=>K7 x.pd y.pd fun p q=>if SeqAt.shaped p=true∧SeqAt.shaped q=true then ret (.bl (!PyData.eqv p q)) else stk
theorem VP {K:PySem.W.Frag}{B H:Hp}{x y:V}{dx dy:D}{b:Bool}(rx:Dw K B H x dx) (ry:Dw K B H y dy) (e:scD dx dy=some b):L2.scal x y=true∧decide (x=y)=b:=by
 unfold scD at e
 split at e
 ·cases e
  rw [rx.int,ry.int]
  exact ⟨rfl,by simp⟩
 ·cases e
  rw [rx.str,ry.str]
  exact ⟨rfl,by simp⟩
 ·cases e
theorem yO {k:Nat}(hr:Room k X.A):Op2 X (compareOp .Eq) v7:=by
 refine .mk' (op_eq.or (op_eqD hr.units)) fun W B H s x y dx dy Q E k w rx ry h=> ?_
 unfold v7 at h
 cases es:scD dx dy with
 | some b=>
  rw [es] at h
  obtain ⟨h1,h2⟩:=VP rx ry es
  exact .inl ⟨h1,by rw [h2];exact h.bU k w (.bl _)⟩
 | none=>
  rw [es] at h
  obtain ⟨p,q,e1,e2,h⟩:=uV h
  split at h
  ·rename_i hc
   exact .inr ⟨p,q,rx.dp k e1,ry.dp k e2,hc.1,hc.2,h.bU k w (.bl _)⟩
  ·exact h.elim
theorem PB {k:Nat}(hr:Room k X.A):Op2 X (compareOp .NotEq) Jx:=by
 refine .mk' (op_ne.or (op_neD hr.units)) fun W B H s x y dx dy Q E k w rx ry h=> ?_
 unfold Jx at h
 cases es:scD dx dy with
 | some b=>
  rw [es] at h
  obtain ⟨h1,h2⟩:=VP rx ry es
  exact .inl ⟨h1,by rw [h2];exact h.bU k w (.bl _)⟩
 | none=>
  rw [es] at h
  obtain ⟨p,q,e1,e2,h⟩:=uV h
  split at h
  ·rename_i hc
   exact .inr ⟨p,q,rx.dp k e1,ry.dp k e2,hc.1,hc.2,h.bU k w (.bl _)⟩
  ·exact h.elim
def PL (f:Int→Int→Bool):D→D→M D
 | .int i,.int j=>ret (.bl (f i j))
 | _,_=>stk
abbrev ltD:=PL fun i j=>decide (i<j)
abbrev Wb:=PL fun i j=>decide (i≤j)
abbrev gtD:=PL fun i j=>decide (j<i)
abbrev ZS:=PL fun i j=>decide (j≤i)
theorem Rj {g:Value→Value→Sem Value}{f:Int→Int→Bool}(h:OpR X g (rI0 fun i j=> .bl (f i j))):Op2 X g (PL f):=by
 refine .mk' h fun W B H s x y dx dy Q E k w rx ry h=> ?_
 unfold PL at h
 split at h
 ·exact ⟨_,_,rx.int,ry.int,h.bU k w (.bl _)⟩
 ·exact (show False from h).elim
theorem aek:Op2 X (compareOp .Lt) ltD:=Rj op_lt
theorem Ou:Op2 X (compareOp .LtE) Wb:=Rj op_le
theorem aeh:Op2 X (compareOp .Gt) gtD:=Rj op_gt
theorem acP:Op2 X (compareOp .GtE) ZS:=Rj op_ge
def mH (d:PyData) (ps:List PyData):Bool:=ps.any fun z=>PyData.eqv z d
def inD (x y:D):M D:=match y with
 | .lst ys=>K7 x.pd (D.tM ys) fun p qs=>if SeqAt.shaped p=true∧SeqAt.shaped (.list qs)=true then ret (.bl (mH p qs)) else stk
 | .tup ys=>K7 x.pd (D.tM ys) fun p qs=>if SeqAt.shaped p=true∧SeqAt.shaped (.tuple qs)=true then ret (.bl (mH p qs)) else stk
 | .str z=>match x with
  | .str a=>ret (.bl (!(Builtin.Str.occurrences z a 0 z.length 1).isEmpty))
  | _=>stk
 | _=>stk
def Ai (x y:D):M D:=match y with
 | .lst ys=>K7 x.pd (D.tM ys) fun p qs=>if SeqAt.shaped p=true∧SeqAt.shaped (.list qs)=true then ret (.bl (!mH p qs)) else stk
 | .tup ys=>K7 x.pd (D.tM ys) fun p qs=>if SeqAt.shaped p=true∧SeqAt.shaped (.tuple qs)=true then ret (.bl (!mH p qs)) else stk
 | .str z=>match x with
  | .str a=>ret (.bl (!!(Builtin.Str.occurrences z a 0 z.length 1).isEmpty))
  | _=>stk
 | _=>stk
def aci (K:PySem.W.Frag) (neg:Bool):R2:=fun x y H Q=>∃d ds,Dp K H x d∧Dp K H y (.tuple ds)∧SeqAt.shaped d=true∧SeqAt.shaped (.tuple ds)=true∧Q (.bl (if neg then !mH d ds else mH d ds)) H
theorem room_in {A:Around}{d e:PyData}(hd:SeqAt.shaped d=true) (hu:A.units+65<cLine):A.units+1+min (PyData.depthAll ds) d.depth<cLine:=by
 have z:=of_decide_eq_true (Bool.and_eq_true_iff.mp hd).2
 have z2:min (PyData.depthAll ds) d.depth≤d.depth:=Nat.min_le_right _ _
 omega
theorem W3 (hu:X.A.units+65<cLine):OpR X (compareOp .In) (aci X.K false):=by
 intro pins s σ H x y v u Q I rx ry h
 obtain ⟨d,ds,hd,he,sd,se,q⟩:=h
 obtain ⟨as,r1⟩:=Dp.reads I d x v hd rx
 obtain ⟨bs,r2⟩:=Dp.reads I (.tuple ds) y u he ry
 exact SeqAt.in_tuple_reads r2 r1 (SeqAt.canLay_of_shaped se) (SeqAt.canLay_of_shaped sd) (room_in (e:=d) sd hu) ⟨.bl _,H,I,rfl,q⟩
theorem YQ (hu:X.A.units+65<cLine):OpR X (compareOp .NotIn) (aci X.K true):=by
 intro pins s σ H x y v u Q I rx ry h
 obtain ⟨d,ds,hd,he,sd,se,q⟩:=h
 obtain ⟨as,r1⟩:=Dp.reads I d x v hd rx
 obtain ⟨bs,r2⟩:=Dp.reads I (.tuple ds) y u he ry
 exact SeqAt.notIn_tuple_reads r2 r1 (SeqAt.canLay_of_shaped se) (SeqAt.canLay_of_shaped sd) (room_in (e:=d) sd hu) ⟨.bl _,H,I,rfl,q⟩
theorem FP {k:Nat}{A:Around}(hr:Room k A):A.units+65<cLine:=by have:=hr.un;omega
theorem Rk {K:PySem.W.Frag}{W:Wd}{B H:Hp}{v:V}{ys:List D}{qs:List PyData}(k:Kn W B H) (r:Dw K B H v (.lst ys)) (e:D.tM ys=some qs):Dp K H v (.list qs):=r.dp k (by unfold D.pd;rw [e];rfl)
theorem Xd {K:PySem.W.Frag}{W:Wd}{B H:Hp}{v:V}{ys:List D}{qs:List PyData}(k:Kn W B H) (r:Dw K B H v (.tup ys)) (e:D.tM ys=some qs):Dp K H v (.tuple qs):=r.dp k (by unfold D.pd;rw [e];rfl)
theorem Yv {k:Nat}(hr:Room k X.A):Op2 X (compareOp .In) inD:=by
 refine .mk' ((op_inD (FP hr)).or ((W3 (FP hr)).or op_in_str)) fun W B H s x y dx dy Q E k w rx ry h=> ?_
 unfold inD at h
 split at h
 ·obtain ⟨p,qs,e1,e2,h⟩:=uV h
  split at h
  ·rename_i hc
   exact Or.inl ⟨p,qs,rx.dp k e1,Rk k ry e2,hc.1,hc.2,h.bU k w (.bl _)⟩
  ·exact h.elim
 ·obtain ⟨p,qs,e1,e2,h⟩:=uV h
  split at h
  ·rename_i hc
   exact Or.inr (Or.inl ⟨p,qs,rx.dp k e1,Xd k ry e2,hc.1,hc.2,h.bU k w (.bl _)⟩)
  ·exact h.elim
 ·split at h
  ·exact Or.inr (Or.inr ⟨_,_,rx.str,ry.str,h.bU k w (.bl _)⟩)
  ·exact (show False from h).elim
 ·exact (show False from h).elim
theorem Pk {k:Nat}(hr:Room k X.A):Op2 X (compareOp .NotIn) Ai:=by
 refine .mk' ((op_notInD (FP hr)).or ((YQ (FP hr)).or op_notin_str)) fun W B H s x y dx dy Q E k w rx ry h=> ?_
 unfold Ai at h
 split at h
 ·obtain ⟨p,qs,e1,e2,h⟩:=uV h
  split at h
  ·rename_i hc
   exact Or.inl ⟨p,qs,rx.dp k e1,Rk k ry e2,hc.1,hc.2,h.bU k w (.bl _)⟩
  ·exact h.elim
 ·obtain ⟨p,qs,e1,e2,h⟩:=uV h
  split at h
  ·rename_i hc
   exact Or.inr (Or.inl ⟨p,qs,rx.dp k e1,Xd k ry e2,hc.1,hc.2,h.bU k w (.bl _)⟩)
  ·exact h.elim
 ·split at h
  ·exact Or.inr (Or.inr ⟨_,_,rx.str,ry.str,h.bU k w (.bl _)⟩)
  ·exact (show False from h).elim
 ·exact (show False from h).elim
def isNon:D→Bool
 | .non=>true
 | _=>false
def isD:D→D→M D
 | .raw _,_=>stk
 | x,.non=>ret (.bl (isNon x))
 | .bl a,.bl b=>ret (.bl (decide (a=b)))
 | _,_=>stk
theorem YL {K:PySem.W.Frag}{B H:Hp}{v:V}{d:D}(r:Dw K B H v d) (h:∀x,d ≠ .raw x):decide (v = .non)=isNon d:=by
 rcases r with r | ⟨a,u,rfl,hp,r⟩
 ·cases r<;>first | rfl | exact absurd rfl (h _)
 ·cases r<;>rfl
theorem acy:Op2 X (compareOp .Is) isD:=by
 refine .mk' (op_isN.or op_isBl) fun W B H s x y dx dy Q E k w rx ry h=> ?_
 unfold isD at h
 split at h
 ·exact (show False from h).elim
 ·rename_i n
  refine Or.inl ⟨ry.non,?_⟩
  rw [YL rx n]
  exact h.bU k w (.bl _)
 ·exact Or.inr ⟨_,_,rx.bl,ry.bl,h.bU k w (.bl _)⟩
 ·exact (show False from h).elim
end
variable {G:Gd}
def Vn (W:Wd) (K:PySem.W.Frag) (B H:Hp) (r:Res (List D)) (Q:List V→Hp→Prop) (E:XK):Prop:=match r with
 | .ok ds s'=>∀(vs:List V) (B' H':Hp),Gr W B H B' H'→W.ok s' B' H'→DvL K B' vs ds→Q vs H'
 | .exc C fs s'=>XW W K B H C fs s' E
 | .stuck=>False
structure SA (G:Gd) (X:Cx) (Wx:WX) (es:List Expr) (m:bJ (List D)):Prop where
 ex:∃t,PA X es t∧∀(W:Wd) (H0:Hp) (σ:L2.St) (B H:Hp) (ls:List Sl) (s:DS) (Q:List V→Hp→Prop),Kn W B H→W.ok s B H→Sm G W X.K H0 B H σ ls→Vn W X.K B H (m ls s) Q (fun c d H'=>Wx c d σ H')→t σ H Q
inductive DbL (W:Wd) (K:PySem.W.Frag) (B H:Hp):List V→List D→Prop
 | nil:DbL W K B H [] []
 | cons {v:V}{vs:List V}{d:D}{ds:List D}:Db W K B H v d→DbL W K B H vs ds→DbL W K B H (v::vs) (d::ds)
inductive DwL (K:PySem.W.Frag) (B H:Hp):List V→List D→Prop
 | nil:DwL K B H [] []
 | cons {v:V}{vs:List V}{d:D}{ds:List D}:Dw K B H v d→DwL K B H vs ds→DwL K B H (v::vs) (d::ds)
theorem DbL.w {W:Wd}{K:PySem.W.Frag}{B H:Hp}:∀{vs:List V}{ds:List D},DbL W K B H vs ds→DwL K B H vs ds
 | _,_,.nil=> .nil
 | _,_,.cons a r=> .cons a.w r.w
theorem DbL.grow {W:Wd}{K:PySem.W.Frag}{B H B' H':Hp}(g:Gr W B H B' H'):∀{vs:List V}{ds:List D},DbL W K B H vs ds→DbL W K B' H' vs ds
 | _,_,.nil=> .nil
 | _,_,.cons a r=> .cons (a.grow g) (DbL.grow g r)
def JX (W:Wd) (K:PySem.W.Frag) (B H:Hp) (r:Res (List D)) (Q:List V→Hp→Prop) (E:XK):Prop:=match r with
 | .ok ds s'=>∀(vs:List V) (B' H':Hp),Gr W B H B' H'→W.ok s' B' H'→DbL W K B' H' vs ds→Q vs H'
 | .exc C fs s'=>XW W K B H C fs s' E
 | .stuck=>False
structure SAO (G:Gd) (X:Cx) (Wx:WX) (es:List Expr) (m:bJ (List D)):Prop where
 ex:∃t,PA X es t∧∀(W:Wd) (H0:Hp) (σ:L2.St) (B H:Hp) (ls:List Sl) (s:DS) (Q:List V→Hp→Prop),Kn W B H→W.ok s B H→Sm G W X.K H0 B H σ ls→JX W X.K B H (m ls s) Q (fun c d H'=>Wx c d σ H')→t σ H Q
section
variable {W:Wd}{K:PySem.W.Frag}{B H B1 H1:Hp}{E:XK}{s:DS}
theorem Vn.grow {r:Res (List D)}{Q:List V→Hp→Prop}(g:Gr W B H B1 H1) (h:Vn W K B H r Q E):Vn W K B1 H1 r Q E:=by
 cases r with
 | ok d s'=>exact fun v B' H' g' w r=>h v B' H' (g.trans g') w r
 | exc C fs s'=>exact fun od B' H' g' w x=>h od B' H' (g.trans g') w x
 | stuck=>exact h
theorem JX.grow {r:Res (List D)}{Q:List V→Hp→Prop}(g:Gr W B H B1 H1) (h:JX W K B H r Q E):JX W K B1 H1 r Q E:=by
 cases r with
 | ok d s'=>exact fun v B' H' g' w r=>h v B' H' (g.trans g') w r
 | exc C fs s'=>exact fun od B' H' g' w x=>h od B' H' (g.trans g') w x
 | stuck=>exact h
end
section
variable {X:Cx}{Wx:WX}{a b c e:Expr}{es:List Expr}{ma mb mc me:bJ D}{ms:bJ (List D)}{pos p:Pos}
theorem aA:SA G X Wx [] (fun _=>ret []):=⟨_,pa_nil,fun W H0 σ B H ls s Q k w sm h=>h [] B H (Gr.refl k) w .nil⟩
theorem aN:SAO G X Wx [] (fun _=>ret []):=⟨_,pa_nil,fun W H0 σ B H ls s Q k w sm h=>h [] B H (Gr.refl k) w .nil⟩
def ao (ma:bJ D) (ms:bJ (List D)):bJ (List D):=fun ls=>bnd (ma ls) fun d=>bnd (ms ls) fun ds=>ret (d::ds)
theorem aj (ha:SE G X Wx e ma) (hr:SA G X Wx es ms) (hs:starEach (e::es) X.env=(false,eval e X.env)::starEach es X.env:=by rfl):SA G X Wx (e::es) (ao ma ms):=by
 obtain ⟨ta,pa,ha⟩:=ha.ex
 obtain ⟨tr,pr,hr⟩:=hr.ex
 refine ⟨_,pa_cons pa pr hs,fun W H0 σ B H ls s Q k w sm h=> ?_⟩
 refine ha W H0 σ B H ls s _ k w sm ?_
 unfold ao at h
 cases e1:ma ls s with
 | stuck=>rw [aO e1] at h;exact h
 | exc C fs s'=>rw [aC e1] at h;exact h
 | ok d s1=>
  rw [aP e1] at h
  intro v B1 H1 g1 w1 r1
  refine hr W H0 σ B1 H1 ls s1 _ g1.kn w1 (sm.grow g1) ?_
  have h:=h.grow g1
  cases e2:ms ls s1 with
  | stuck=>rw [aO e2] at h;exact h
  | exc C fs s'=>rw [aC e2] at h;exact h
  | ok ds s2=>
   rw [aP e2] at h
   exact fun vs B2 H2 g2 w2 r2=>h (v::vs) B2 H2 g2 w2 (.cons (r1.mono g2.bb) r2)
theorem aH (ha:SO G X Wx e ma) (hr:SAO G X Wx es ms) (hs:starEach (e::es) X.env=(false,eval e X.env)::starEach es X.env:=by rfl):SAO G X Wx (e::es) (ao ma ms):=by
 obtain ⟨ta,pa,ha⟩:=ha.ex
 obtain ⟨tr,pr,hr⟩:=hr.ex
 refine ⟨_,pa_cons pa pr hs,fun W H0 σ B H ls s Q k w sm h=> ?_⟩
 refine ha W H0 σ B H ls s _ k w sm ?_
 unfold ao at h
 cases e1:ma ls s with
 | stuck=>rw [aO e1] at h;exact h
 | exc C fs s'=>rw [aC e1] at h;exact h
 | ok d s1=>
  rw [aP e1] at h
  intro v B1 H1 g1 w1 r1
  refine hr W H0 σ B1 H1 ls s1 _ g1.kn w1 (sm.grow g1) ?_
  have h:=h.grow g1
  cases e2:ms ls s1 with
  | stuck=>rw [aO e2] at h;exact h
  | exc C fs s'=>rw [aC e2] at h;exact h
  | ok ds s2=>
   rw [aP e2] at h
   exact fun vs B2 H2 g2 w2 r2=>h (v::vs) B2 H2 g2 w2 (.cons (r1.grow g2) r2)
def tZ:D→M (List D)
 | .lst xs=>ret xs
 | .tup xs=>ret xs
 | .qb xs=>ret xs
 | _=>stk
theorem Dw.seq {W:Wd}{K:PySem.W.Frag}{B H:Hp}{v:V}{d:D}{s s':DS}{xs:List D}(k:Kn W B H) (r:Dw K B H v d) (h:tZ d s = .ok xs s'):s'=s∧∃q vs,v = .ref q∧(SqT K H q vs∨SqL K H q vs)∧DvL K B vs xs:=by
 unfold tZ at h
 split at h
 ·cases h
  obtain ⟨q,vs,e,hq,rr⟩:=r.lst k
  exact ⟨rfl,q,vs,e,Or.inr (SqL.of hq),rr⟩
 ·cases h
  obtain ⟨q,vs,e,hq,rr⟩:=r.tup
  exact ⟨rfl,q,vs,e,Or.inl (k.t hq),rr⟩
 ·cases h
  obtain ⟨q,o,vs,e,hq,_,rr⟩:=r.qb
  exact ⟨rfl,q,vs,e,Or.inl (k.tp hq),rr⟩
 ·cases h
theorem Db.seq {W:Wd}{K:PySem.W.Frag}{B H:Hp}{v:V}{d:D}{s s':DS}{xs:List D}(k:Kn W B H) (r:Db W K B H v d) (h:tZ d s = .ok xs s'):s'=s∧∃q vs,v = .ref q∧(SqT K H q vs∨SqL K H q vs)∧DvL K B vs xs:=r.w.seq k h
def BK (ma:bJ D) (ms:bJ (List D)):bJ (List D):=fun ls=>bnd (ma ls) fun d=>bnd (tZ d) fun xs=>bnd (ms ls) fun ds=>ret (xs++ds)
theorem Wm (d:D) (s:DS):(∃xs,tZ d s = .ok xs s)∨tZ d s = .stuck:=by
 unfold tZ
 split
 ·exact Or.inl ⟨_,rfl⟩
 ·exact Or.inl ⟨_,rfl⟩
 ·exact Or.inl ⟨_,rfl⟩
 ·exact Or.inr rfl
theorem yE (ha:SO G X Wx e ma) (hr:SA G X Wx es ms) (hs:starEach (.Starred e p::es) X.env=(true,eval e X.env)::starEach es X.env:=by rfl):SA G X Wx (.Starred e p::es) (BK ma ms):=by
 obtain ⟨ta,pa,ha⟩:=ha.ex
 obtain ⟨tr,pr,hr⟩:=hr.ex
 refine ⟨_,StX.pa_star pa pr hs,fun W H0 σ B H ls s Q k w sm h=> ?_⟩
 refine ha W H0 σ B H ls s _ k w sm ?_
 unfold BK at h
 cases e1:ma ls s with
 | stuck=>rw [aO e1] at h;exact h
 | exc C fs s'=>rw [aC e1] at h;exact h
 | ok d s1=>
  rw [aP e1] at h
  intro v B1 H1 g1 w1 r1
  have h:=h.grow g1
  rcases Wm d s1 with ⟨xs,e3⟩ | e3
  ·rw [aP e3] at h
   obtain ⟨_,q,vs,rfl,hq,rr⟩:=r1.seq g1.kn e3
   refine ⟨q,vs,rfl,hq,?_⟩
   refine hr W H0 σ B1 H1 ls s1 _ g1.kn w1 (sm.grow g1) ?_
   cases e2:ms ls s1 with
   | stuck=>rw [aO e2] at h;exact h
   | exc C fs s'=>rw [aC e2] at h;exact h
   | ok ds s2=>
    rw [aP e2] at h
    exact fun us B2 H2 g2 w2 r2=>h (vs++us) B2 H2 g2 w2 ((rr.mono g2.bb).app r2)
  ·rw [aO e3] at h
   exact h.elim
def bK (ds:List D):M D:=if ds.length≤sizeLine then ret (.tup ds) else stk
def eX (ds:List D):M (List D):=if ds.length≤sizeLine then ret ds else stk
theorem aU {x1} (h:SA G X Wx es ms):SE G X Wx (.Tuple es x1 pos) (fun ls=>bnd (ms ls) bK):=by
 obtain ⟨t,pt,ht⟩:=h.ex
 refine ⟨_,pe_tup pt,fun W H0 σ B H ls s Q k w sm h=> ?_⟩
 refine ht W H0 σ B H ls s _ k w sm ?_
 cases e:ms ls s with
 | stuck=>rw [aO e] at h;exact h
 | exc C fs s'=>rw [aC e] at h;exact h
 | ok ds s1=>
  rw [aP e] at h
  intro vs B1 H1 g1 w1 r1
  have h:=h.grow g1
  unfold bK at h
  split at h
  ·rename_i hl
   exact ⟨by rw [r1.len];exact hl,fun q hq=>h.new_ g1.kn w1 hq (.tup upd_same (r1.mono (bh (cA g1.kn hq))))⟩
  ·exact h.elim
theorem cD (h:SA G X Wx es ms):SL G X Wx (.List es pos) (fun ls=>bnd (ms ls) eX):=by
 obtain ⟨t,pt,ht⟩:=h.ex
 refine ⟨_,pe_lst pt,fun W H0 σ B H ls s Q k w sm h=> ?_⟩
 refine ht W H0 σ B H ls s _ k w sm ?_
 cases e:ms ls s with
 | stuck=>rw [aO e] at h;exact h
 | exc C fs s'=>rw [aC e] at h;exact h
 | ok ds s1=>
  rw [aP e] at h
  intro vs B1 H1 g1 w1 r1
  have h:=h.grow g1 ⟨_,w1⟩
  unfold eX at h
  split at h
  ·rename_i hl
   exact ⟨by rw [r1.len];exact hl,fun q hq=>h.bU g1.kn w1 hq r1⟩
  ·exact h.elim
def QT:D→D→M (List D)
 | .lst a,.lst b=>if a.length+b.length≤sizeLine then ret (a++b) else stk
 | _,_=>stk
theorem Hi (ha:SO G X Wx a ma) (hb:SO G X Wx b mb):SL G X Wx (.BinOp a .Add b pos) (fun ls=>bnd (ma ls) fun x=>bnd (mb ls) fun y=>QT x y):=by
 obtain ⟨ta,pa,ha⟩:=ha.ex
 obtain ⟨tb,pb,hb⟩:=hb.ex
 refine ⟨_,pe_op op_cat pa pb,fun W H0 σ B H ls s Q k w sm h=> ?_⟩
 refine ha W H0 σ B H ls s _ k w sm (h.gD fun dx s1 x B1 H1 g1 w1 rx h1=> ?_)
 refine hb W H0 σ B1 H1 ls s1 _ g1.kn w1 (sm.grow g1) (h1.gD fun dy s2 y B2 H2 g2 w2 ry h2=> ?_)
 unfold QT at h2
 split at h2
 ·split at h2
  ·rename_i hl
   obtain ⟨p,vs,rfl,hp,r1⟩:=(rx.grow g2).lst g2.kn
   obtain ⟨q,us,rfl,hq,r2⟩:=ry.lst g2.kn
   exact ⟨p,q,vs,us,rfl,rfl,hp,hq,by rw [r1.len,r2.len];exact hl,fun c hc=>h2.bU g2.kn w2 hc (r1.app r2)⟩
  ·exact h2.elim
 ·exact (show False from h2).elim
def oG {α:Type}:Option α→M α
 | some a=>ret a
 | none=>stk
def dJ:D→D→M D
 | .lst xs,.int i=>oG (atI xs i)
 | .tup xs,.int i=>oG (atI xs i)
 | .qb xs,.int i=>oG (atI xs i)
 | .str z,.int i=>if z.length≤sizeLine then oG ((atI z.cps.toList i).map fun c=> .str ⟨#[c]⟩) else stk
 | _,_=>stk
theorem DvL.at {K:PySem.W.Frag}{H:Hp}{vs:List V}{ds:List D}{i:Int}{d:D}(r:DvL K H vs ds) (h:atI ds i=some d):∃v,atI vs i=some v∧Dv K H v d:=by
 unfold atI at h ⊢
 rw [r.len]
 cases e:ixN ds.length i with
 | none=>rw [e] at h;cases h
 | some j=>
  rw [e] at h
  exact r.getD h
theorem bL (ha:SO G X Wx a ma) (hb:SO G X Wx b mb) (hs:PlainIx b:=by intro _ _;rfl):SE G X Wx (.Subscript a b pos) (m2 dJ ma mb):=by
 obtain ⟨ta,pa,ha⟩:=ha.ex
 obtain ⟨tb,pb,hb⟩:=hb.ex
 refine ⟨_,pe_ix (ix_list.or (ix_tup.or ix_str)) pa pb hs,fun W H0 σ B H ls s Q k w sm h=> ?_⟩
 refine ha W H0 σ B H ls s _ k w sm (h.gD fun dx s1 x B1 H1 g1 w1 rx h1=> ?_)
 refine hb W H0 σ B1 H1 ls s1 _ g1.kn w1 (sm.grow g1) (h1.gD fun dy s2 y B2 H2 g2 w2 ry h2=> ?_)
 have rx2:=rx.grow g2
 unfold dJ at h2
 split at h2
 ·rename_i xs i
  obtain ⟨p,vs,rfl,hp,r1⟩:=rx2.lst g2.kn
  cases e:atI xs i with
  | none=>rw [e] at h2;exact (show False from h2).elim
  | some d=>
   rw [e] at h2
   obtain ⟨v,e1,r2⟩:=r1.at e
   exact Or.inl ⟨p,vs,i,v,rfl,ry.int,SqL.of hp,e1,h2.bU g2.kn w2 r2⟩
 ·rename_i xs i
  obtain ⟨p,vs,rfl,hp,r1⟩:=rx2.tup
  cases e:atI xs i with
  | none=>rw [e] at h2;exact (show False from h2).elim
  | some d=>
   rw [e] at h2
   obtain ⟨v,e1,r2⟩:=r1.at e
   exact Or.inr (Or.inl ⟨p,vs,i,v,rfl,ry.int,g2.kn.t hp,e1,h2.bU g2.kn w2 r2⟩)
 ·rename_i xs i
  obtain ⟨p,o,vs,rfl,hp,_,r1⟩:=rx2.qb
  cases e:atI xs i with
  | none=>rw [e] at h2;exact (show False from h2).elim
  | some d=>
   rw [e] at h2
   obtain ⟨v,e1,r2⟩:=r1.at e
   exact Or.inr (Or.inl ⟨p,vs,i,v,rfl,ry.int,g2.kn.tp hp,e1,h2.bU g2.kn w2 r2⟩)
 ·rename_i z i
  split at h2
  ·rename_i hl
   cases e:atI z.cps.toList i with
   | none=>rw [e] at h2;exact (show False from h2).elim
   | some c=>
    rw [e] at h2
    exact Or.inr (Or.inr ⟨z,i,c,rx2.str,ry.int,hl,e,h2.bU g2.kn w2 (.str _)⟩)
  ·exact h2.elim
 ·exact (show False from h2).elim
def ad9 (W:Wd) (K:PySem.W.Frag) (B H:Hp) (r:Res (Option Int)) (Q:Option Int→Hp→Prop) (E:XK):Prop:=match r with
 | .ok o s'=>∀(B' H':Hp),Gr W B H B' H'→W.ok s' B' H'→Q o H'
 | .exc C fs s'=>XW W K B H C fs s' E
 | .stuck=>False
structure SP' (G:Gd) (X:Cx) (Wx:WX) (e:Option Expr) (m:bJ (Option Int)):Prop where
 ex:∃t,PO X e t∧∀(W:Wd) (H0:Hp) (σ:L2.St) (B H:Hp) (ls:List Sl) (s:DS) (Q:Option Int→Hp→Prop),Kn W B H→W.ok s B H→Sm G W X.K H0 B H σ ls→ad9 W X.K B H (m ls s) Q (fun c d H'=>Wx c d σ H')→t σ H Q
theorem nW:SP' G X Wx none (fun _=>ret none):=⟨_,po_none,fun W H0 σ B H ls s Q k w sm h=>h B H (Gr.refl k) w⟩
def intD:D→M (Option Int)
 | .int i=>ret (some i)
 | _=>stk
theorem ou (ha:SE G X Wx a ma):SP' G X Wx (some a) (fun ls=>bnd (ma ls) intD):=by
 obtain ⟨ta,pa,ha⟩:=ha.ex
 refine ⟨_,po_some pa,fun W H0 σ B H ls s Q k w sm h=> ?_⟩
 refine ha W H0 σ B H ls s _ k w sm ?_
 cases e:ma ls s with
 | stuck=>rw [aO e] at h;exact h
 | exc C fs s'=>rw [aC e] at h;exact h
 | ok d s1=>
  rw [aP e] at h
  intro v B1 H1 g1 w1 r1
  unfold intD at h
  split at h
  ·cases r1
   exact ⟨_,rfl,h B1 H1 g1 w1⟩
  ·exact (show False from h).elim
def fZ {α:Type}(xs:List α) (lo hi:Option Int):List α:=(xs.drop (HT.sIx xs.length 0 lo)).take (HT.sIx xs.length xs.length hi-HT.sIx xs.length 0 lo)
def slD (x:D) (lo hi:Option Int):M D:=match x with
 | .lst xs=>ret (.lst (fZ xs lo hi))
 | .tup xs=>ret (.tup (fZ xs lo hi))
 | .qb xs=>if HT.sIx xs.length 0 lo=0∧HT.sIx xs.length xs.length hi=xs.length then ret (.qb xs) else ret (.tup (fZ xs lo hi))
 | .str z=>if z.length≤sizeLine then ret (.str (cutS z lo hi)) else stk
 | _=>stk
theorem DvL.drop {K:PySem.W.Frag}{H:Hp}:∀{vs:List V}{ds:List D}(n:Nat),DvL K H vs ds→DvL K H (vs.drop n) (ds.drop n)
 | _,_,0,r=>r
 | _,_,_+1,.nil=> .nil
 | _,_,n+1,.cons _ r=>DvL.drop n r
theorem DvL.take {K:PySem.W.Frag}{H:Hp}:∀{vs:List V}{ds:List D}(n:Nat),DvL K H vs ds→DvL K H (vs.take n) (ds.take n)
 | _,_,0,_=> .nil
 | _,_,_+1,.nil=> .nil
 | _,_,n+1,.cons a r=> .cons a (DvL.take n r)
theorem DvL.cut {K:PySem.W.Frag}{H:Hp}{vs:List V}{ds:List D}(lo hi:Option Int) (r:DvL K H vs ds):DvL K H (cutV vs lo hi) (fZ ds lo hi):=by
 unfold cutV fZ
 rw [r.len]
 exact (r.drop _).take _
theorem Tw {ds:List D}{lo hi:Option Int}(h:HT.sIx ds.length 0 lo=0∧HT.sIx ds.length ds.length hi=ds.length):fZ ds lo hi=ds:=by
 unfold fZ
 rw [h.1,h.2]
 simp
def Pr (ma:bJ D) (ml mh:bJ (Option Int)):bJ D:=fun ls=>bnd (ma ls) fun x=>bnd (ml ls) fun lo=>bnd (mh ls) fun hi=>slD x lo hi
theorem zj {lo hi:Option Expr}{p2:Pos}{ml mh:bJ (Option Int)}(ha:SO G X Wx a ma) (hl:SP' G X Wx lo ml) (hh:SP' G X Wx hi mh):SE G X Wx (.Subscript a (.Slice lo hi none p2) pos) (Pr ma ml mh):=by
 obtain ⟨ta,pa,ha⟩:=ha.ex
 obtain ⟨tl,pl,hl⟩:=hl.ex
 obtain ⟨th,ph,hh⟩:=hh.ex
 refine ⟨_,pe_slice (sl_list.or (sl_tupA.or sl_str)) pa pl ph,fun W H0 σ B H ls s Q k w sm h=> ?_⟩
 refine ha W H0 σ B H ls s _ k w sm (h.gD fun dx s1 x B1 H1 g1 w1 rx h1=> ?_)
 refine hl W H0 σ B1 H1 ls s1 _ g1.kn w1 (sm.grow g1) ?_
 cases e:ml ls s1 with
 | stuck=>rw [aO e] at h1;exact h1
 | exc C fs s'=>rw [aC e] at h1;exact h1
 | ok lo' s2=>
  rw [aP e] at h1
  intro B2 H2 g2 w2
  have h1:=h1.grow g2
  refine hh W H0 σ B2 H2 ls s2 _ g2.kn w2 ((sm.grow g1).grow g2) ?_
  cases e2:mh ls s2 with
  | stuck=>rw [aO e2] at h1;exact h1
  | exc C fs s'=>rw [aC e2] at h1;exact h1
  | ok hi' s3=>
   rw [aP e2] at h1
   intro B3 H3 g3 w3
   have h1:=h1.grow g3
   have rx:=(rx.grow g2).grow g3
   unfold slD at h1
   split at h1
   ·obtain ⟨p,vs,rfl,hp,r1⟩:=rx.lst g3.kn
    exact Or.inl ⟨p,vs,rfl,SqL.of hp,fun c hc=>h1.new_ g3.kn w3 hc (.lst upd_same ((r1.cut _ _).mono (bh (cA g3.kn hc))))⟩
   ·obtain ⟨p,vs,rfl,hp,r1⟩:=rx.tup
    refine Or.inr (Or.inl ⟨p,vs,rfl,g3.kn.t hp,fun z=> ?_,fun z c hc=> ?_⟩)
    ·rw [r1.len] at z
     rw [Tw z] at h1
     exact h1.bU g3.kn w3 (.tup hp r1)
    ·exact h1.new_ g3.kn w3 hc (.tup upd_same ((r1.cut _ _).mono (bh (cA g3.kn hc))))
   ·obtain ⟨p,o,vs,rfl,hp,hd,r1⟩:=rx.qb
    refine Or.inr (Or.inl ⟨p,vs,rfl,g3.kn.tp hp,fun z=> ?_,fun z c hc=> ?_⟩)
    ·rw [r1.len] at z
     rw [if_pos z] at h1
     exact h1.bU g3.kn w3 (.qb hp hd r1)
    ·rw [r1.len] at z
     rw [if_neg z] at h1
     exact h1.new_ g3.kn w3 hc (.tup upd_same ((r1.cut _ _).mono (bh (cA g3.kn hc))))
   ·split at h1
    ·rename_i hl
     exact Or.inr (Or.inr ⟨_,rx.str,hl,h1.bU g3.kn w3 (.str _)⟩)
    ·exact h1.elim
   ·exact (show False from h1).elim
structure Cl (X:Cx) (f:Value) (op:List D→M D):Prop where
 ex:∃r,CallR X f r∧∀(W:Wd) (B H:Hp) (s:DS) (vs:List V) (ds:List D) (Q:VK) (E:XK),Kn W B H→W.ok s B H→DwL X.K B H vs ds→Ans W X.K B H (op ds s) Q E→r vs H Q
structure ClL (X:Cx) (f:Value) (op:List D→M (List D)):Prop where
 ex:∃r,CallR X f r∧∀(W:Wd) (B H:Hp) (s:DS) (vs:List V) (ds:List D) (Q:VK) (E:XK),Kn W B H→W.ok s B H→DwL X.K B H vs ds→pX W X.K B H (op ds s) Q E→r vs H Q
theorem JF {t:TA}{r:List V→Hp→VK→Prop}{op:List D→M D}(ht:∀(W:Wd) (H0:Hp) (σ:L2.St) (B H:Hp) (ls:List Sl) (s:DS) (Q:List V→Hp→Prop),Kn W B H→W.ok s B H→Sm G W X.K H0 B H σ ls→JX W X.K B H (ms ls s) Q (fun c d H'=>Wx c d σ H')→t σ H Q)
  (hr:∀(W:Wd) (B H:Hp) (s:DS) (vs:List V) (ds:List D) (Q:VK) (E:XK),Kn W B H→W.ok s B H→DwL X.K B H vs ds→Ans W X.K B H (op ds s) Q E→r vs H Q)
  (W:Wd) (H0:Hp) (σ:L2.St) (B H:Hp) (ls:List Sl) (s:DS) (Q:VK) (k:Kn W B H) (w:W.ok s B H) (sm:Sm G W X.K H0 B H σ ls) (h:Ans W X.K B H (bnd (ms ls) op s) Q (fun c d H'=>Wx c d σ H')):tCB r t σ H Q:=by
 refine ht W H0 σ B H ls s _ k w sm ?_
 cases e:ms ls s with
 | stuck=>rw [aO e] at h;exact h
 | exc C fs s'=>rw [aC e] at h;exact h
 | ok ds s1=>
  rw [aP e] at h
  exact fun vs B1 H1 g1 w1 r1=>hr W B1 H1 s1 vs ds Q _ g1.kn w1 r1.w (h.grow g1)
theorem Gi {t:TA}{r:List V→Hp→VK→Prop}{op:List D→M (List D)}(ht:∀(W:Wd) (H0:Hp) (σ:L2.St) (B H:Hp) (ls:List Sl) (s:DS) (Q:List V→Hp→Prop),Kn W B H→W.ok s B H→Sm G W X.K H0 B H σ ls→JX W X.K B H (ms ls s) Q (fun c d H'=>Wx c d σ H')→t σ H Q)
  (hr:∀(W:Wd) (B H:Hp) (s:DS) (vs:List V) (ds:List D) (Q:VK) (E:XK),Kn W B H→W.ok s B H→DwL X.K B H vs ds→pX W X.K B H (op ds s) Q E→r vs H Q)
  (W:Wd) (H0:Hp) (σ:L2.St) (B H:Hp) (ls:List Sl) (s:DS) (Q:VK) (k:Kn W B H) (w:W.ok s B H) (sm:Sm G W X.K H0 B H σ ls) (h:pX W X.K B H (bnd (ms ls) op s) Q (fun c d H'=>Wx c d σ H')):tCB r t σ H Q:=by
 refine ht W H0 σ B H ls s _ k w sm ?_
 cases e:ms ls s with
 | stuck=>rw [aO e] at h;exact h
 | exc C fs s'=>rw [aC e] at h;exact h
 | ok ds s1=>
  rw [aP e] at h
  exact fun vs B1 H1 g1 w1 r1=>hr W B1 H1 s1 vs ds Q _ g1.kn w1 r1.w (h.grow g1 ⟨_,w1⟩)
theorem aV {id:String}{x:Str}{op:List D→M D}(hc:Cl X (.builtin id) op) (hg:Gl X x) (hm:X.mg x=none) (hv:bootBuiltins x=some (.builtin id)) (ha:SAO G X Wx (e::es) ms) (hn:x ≠ "__name__" :=by decide) (hdb:(x==("__debug__" : Str))=false:=by decide)
  (he:starEach (e::es) X.env=(false,eval e X.env)::starEach es X.env:=by rfl) (hpl:(backTo pos (starEach es X.env)).any (·.1)=false:=by rfl):SE G X Wx (.Call (.Name x p) (e::es) [] pos) (fun ls=>bnd (ms ls) op):=by
 obtain ⟨r,pr,hr⟩:=hc.ex
 obtain ⟨t,pt,ht⟩:=ha.ex
 exact ⟨_,pe_callB pr hg hm hv pt hn hdb he hpl,JF ht hr⟩
theorem bT {T:String}{x:Str}{op:List D→M D}(hc:Cl X (.type T) op) (hg:Gl X x) (hm:X.mg x=none) (hv:bootBuiltins x=some (.type T)) (ha:SAO G X Wx (e::es) ms) (hn:x ≠ "__name__" :=by decide) (hdb:(x==("__debug__" : Str))=false:=by decide)
  (he:starEach (e::es) X.env=(false,eval e X.env)::starEach es X.env:=by rfl) (hpl:(backTo pos (starEach es X.env)).any (·.1)=false:=by rfl):SE G X Wx (.Call (.Name x p) (e::es) [] pos) (fun ls=>bnd (ms ls) op):=by
 obtain ⟨r,pr,hr⟩:=hc.ex
 obtain ⟨t,pt,ht⟩:=ha.ex
 exact ⟨_,pe_callTy pr hg hm hv pt hn hdb he hpl,JF ht hr⟩
theorem Vt {id:String}{x:Str}{op:List D→M (List D)}(hc:ClL X (.builtin id) op) (hg:Gl X x) (hm:X.mg x=none) (hv:bootBuiltins x=some (.builtin id)) (ha:SAO G X Wx (e::es) ms) (hn:x ≠ "__name__" :=by decide) (hdb:(x==("__debug__" : Str))=false:=by decide)
  (he:starEach (e::es) X.env=(false,eval e X.env)::starEach es X.env:=by rfl) (hpl:(backTo pos (starEach es X.env)).any (·.1)=false:=by rfl):SL G X Wx (.Call (.Name x p) (e::es) [] pos) (fun ls=>bnd (ms ls) op):=by
 obtain ⟨r,pr,hr⟩:=hc.ex
 obtain ⟨t,pt,ht⟩:=ha.ex
 exact ⟨_,pe_callB pr hg hm hv pt hn hdb he hpl,Gi ht hr⟩
theorem JM {T:String}{x:Str}{op:List D→M (List D)}(hc:ClL X (.type T) op) (hg:Gl X x) (hm:X.mg x=none) (hv:bootBuiltins x=some (.type T)) (ha:SAO G X Wx (e::es) ms) (hn:x ≠ "__name__" :=by decide) (hdb:(x==("__debug__" : Str))=false:=by decide)
  (he:starEach (e::es) X.env=(false,eval e X.env)::starEach es X.env:=by rfl) (hpl:(backTo pos (starEach es X.env)).any (·.1)=false:=by rfl):SL G X Wx (.Call (.Name x p) (e::es) [] pos) (fun ls=>bnd (ms ls) op):=by
 obtain ⟨r,pr,hr⟩:=hc.ex
 obtain ⟨t,pt,ht⟩:=ha.ex
 exact ⟨_,pe_callTy pr hg hm hv pt hn hdb he hpl,Gi ht hr⟩
end
section
variable {X:Cx}
def gj:List D→M D
 | [.lst xs]=>ret (.int xs.length)
 | [.scr ns]=>ret (.int ns.length)
 | [.tup xs]=>ret (.int xs.length)
 | [.qb xs]=>ret (.int xs.length)
 | [.str z]=>if z.length≤sizeLine then ret (.int z.length) else stk
 | _=>stk
theorem jk:Cl X (.builtin "len") gj:=by
 refine ⟨_,call_len,fun W B H s vs ds Q E k w r h=> ?_⟩
 unfold gj at h
 split at h
 ·cases r with
  | cons a r=>
   cases r
   obtain ⟨p,vs,rfl,hp,r1⟩:=a.lst k
   exact ⟨_,vs.length,rfl,Or.inl ⟨_,SqL.of hp,rfl⟩,by rw [r1.len];exact h.bU k w (.int _)⟩
 ·rename_i ns
  cases r with
  | cons a r=>
   cases r
   have hd:=a.dv (by rfl)
   cases hd with
   | scr hs=>exact ⟨_,(ns.map V.int).length,rfl,Or.inl ⟨_,k.l hs,rfl⟩,by rw [List.length_map];exact h.bU k w (.int _)⟩
 ·cases r with
  | cons a r=>
   cases r
   obtain ⟨p,vs,rfl,hp,r1⟩:=a.tup
   exact ⟨_,vs.length,rfl,Or.inr ⟨_,k.t hp,rfl⟩,by rw [r1.len];exact h.bU k w (.int _)⟩
 ·cases r with
  | cons a r=>
   cases r
   obtain ⟨p,o,vs,rfl,hp,_,r1⟩:=a.qb
   exact ⟨_,vs.length,rfl,Or.inr ⟨_,k.tp hp,rfl⟩,by rw [r1.len];exact h.bU k w (.int _)⟩
 ·cases r with
  | cons a r=>
   cases r
   split at h
   ·rename_i hl
    cases a.str
    exact ⟨_,_,rfl,⟨hl,rfl⟩,h.bU k w (.int _)⟩
   ·exact h.elim
 ·exact (show False from h).elim
def gR:List D→M D
 | [.int i]=>ret (.int i)
 | [.bl b]=>ret (.int (if b then 1 else 0))
 | [.str a]=>if a.length≤640 then oG ((PySem.intText? a).map .int) else stk
 | _=>stk
theorem wO:Cl X (.type "int") gR:=by
 refine ⟨_,call_int1.or call_int_str,fun W B H s vs ds Q E k w r h=> ?_⟩
 unfold gR at h
 split at h
 ·cases r with
  | cons a r=>
   cases r
   cases a.int
   exact Or.inl (Or.inl ⟨_,rfl,h.bU k w (.int _)⟩)
 ·cases r with
  | cons a r=>
   cases r
   cases a.bl
   exact Or.inl (Or.inr ⟨_,rfl,h.bU k w (.int _)⟩)
 ·rename_i a
  cases r with
  | cons q r=>
   cases r
   cases q.str
   split at h
   ·rename_i hl
    cases e:PySem.intText? a with
    | none=>rw [e] at h;exact (show False from h).elim
    | some n=>
     rw [e] at h
     exact Or.inr ⟨a,n,rfl,e,hl,h.bU k w (.int _)⟩
   ·exact h.elim
 ·exact (show False from h).elim
def jP:List D→M D
 | [.lst xs]=>ret (.tup xs)
 | [.tup xs]=>ret (.tup xs)
 | _=>stk
theorem jG:Cl X (.type "tuple") jP:=by
 refine ⟨_,call_tuple_of,fun W B H s vs ds Q E k w r h=> ?_⟩
 unfold jP at h
 split at h
 ·cases r with
  | cons a r=>
   cases r
   obtain ⟨p,vs,rfl,hp,r1⟩:=a.lst k
   exact ⟨p,vs,rfl,Or.inl ⟨SqL.of hp,fun c hc=>h.new_ k w hc (.tup upd_same (r1.mono (bh (cA k hc))))⟩⟩
 ·cases r with
  | cons a r=>
   cases r
   obtain ⟨p,vs,rfl,hp,r1⟩:=a.tup
   exact ⟨p,vs,rfl,Or.inr ⟨k.t hp,h.bU k w (.tup hp r1)⟩⟩
 ·exact (show False from h).elim
def S8:List D→M (List D)
 | [.lst xs]=>ret xs
 | [.tup xs]=>ret xs
 | _=>stk
theorem Wr:ClL X (.type "list") S8:=by
 refine ⟨_,call_list_of,fun W B H s vs ds Q E k w r h=> ?_⟩
 unfold S8 at h
 split at h
 ·cases r with
  | cons a r=>
   cases r
   obtain ⟨p,vs,rfl,hp,r1⟩:=a.lst k
   exact ⟨p,vs,rfl,Or.inl (SqL.of hp),fun c hc=>h.bU k w hc r1⟩
 ·cases r with
  | cons a r=>
   cases r
   obtain ⟨p,vs,rfl,hp,r1⟩:=a.tup
   exact ⟨p,vs,rfl,Or.inr (k.t hp),fun c hc=>h.bU k w hc r1⟩
 ·exact (show False from h).elim
def Bv:List D→Option (List Bool)
 | []=>some []
 | .bl b::r=>(Bv r).map (b :: ·)
 | _=>none
theorem DvL.bls {K:PySem.W.Frag}{H:Hp}:∀{vs:List V}{ds:List D}{bs:List Bool},DvL K H vs ds→Bv ds=some bs→vs=bs.map V.bl
 | _,_,_,.nil,e=>by cases e;rfl
 | _,_,_,.cons (d:=d) (ds:=ds) a r,e=>by
  cases a<;>try (unfold Bv at e;cases e)
  rename_i b
  unfold Bv at e
  cases q:Bv ds with
  | none=>rw [q] at e;cases e
  | some l=>
   rw [q] at e
   cases e
   rw [DvL.bls r q]
   rfl
def Et:List D→M D
 | [.lst xs]=>oG ((Bv xs).map fun bs=> .bl (bs.all id))
 | _=>stk
def ZR:List D→M D
 | [.lst xs]=>oG ((Bv xs).map fun bs=> .bl (bs.any id))
 | _=>stk
theorem Ii (hc:X.calm=true):Cl X (.builtin "all") Et:=by
 refine ⟨_,cr_all hc,fun W B H s vs ds Q E k w r h=> ?_⟩
 unfold Et at h
 split at h
 ·rename_i xs
  cases r with
  | cons a r=>
   cases r
   obtain ⟨p,vs,rfl,hp,r1⟩:=a.lst k
   cases e:Bv xs with
   | none=>rw [e] at h;exact (show False from h).elim
   | some bs=>
    rw [e] at h
    exact ⟨p,bs,rfl,SqL.of (by rw [hp,r1.bls e]),h.bU k w (.bl _)⟩
 ·exact (show False from h).elim
theorem acV (hc:X.calm=true):Cl X (.builtin "any") ZR:=by
 refine ⟨_,cr_any hc,fun W B H s vs ds Q E k w r h=> ?_⟩
 unfold ZR at h
 split at h
 ·rename_i xs
  cases r with
  | cons a r=>
   cases r
   obtain ⟨p,vs,rfl,hp,r1⟩:=a.lst k
   cases e:Bv xs with
   | none=>rw [e] at h;exact (show False from h).elim
   | some bs=>
    rw [e] at h
    exact ⟨p,bs,rfl,SqL.of (by rw [hp,r1.bls e]),h.bU k w (.bl _)⟩
 ·exact (show False from h).elim
end
variable {G:Gd}
inductive Fl where
 | nx (ls:List Sl)
 | rt (d:D)
 | bk (ls:List Sl)
 | ct (ls:List Sl)
 | rl (ds:List D)
abbrev MS:=List Sl→M Fl
def jO (G:Gd) (W:Wd) (K:PySem.W.Frag) (Wx:WX) (B0 H0:Hp) (r:Res Fl) (D:Ends):Prop:=match r with
 | .ok (.nx ls) s'=>∀(σ:L2.St) (B H:Hp),Gr W B0 H0 B H→W.ok s' B H→Sm G W K H0 B H σ ls→D.nx σ H
 | .ok (.bk ls) s'=>∀(σ:L2.St) (B H:Hp),Gr W B0 H0 B H→W.ok s' B H→Sm G W K H0 B H σ ls→D.bk σ H
 | .ok (.ct ls) s'=>∀(σ:L2.St) (B H:Hp),Gr W B0 H0 B H→W.ok s' B H→Sm G W K H0 B H σ ls→D.ct σ H
 | .ok (.rt d) s'=>∀(v:V) (B H:Hp),Gr W B0 H0 B H→W.ok s' B H→Dv K B v d→D.rt v H
 | .ok (.rl ds) s'=>∀(p:Addr) (vs:List V) (B H:Hp),Gr W B0 H0 B H→W.ok s' B H→H0 p=none→¬W.gq p→B p=none→H p=some (.lst vs)→DvL K B vs ds→D.rt (.ref p) H
 | .exc C fs s'=>∀(od:Option Addr) (σ:L2.St) (B H:Hp),Gr W B0 H0 B H→W.ok s' B H→XFl K B od fs→Wx (.ref C) od σ H
 | .stuck=>False
structure SS (G:Gd) (X:Cx) (Wx:WX) (st:Stmt) (m:MS):Prop where
 ex:∃t,PS X st t∧∀(W:Wd) (B0 H0:Hp) (σ:L2.St) (B H:Hp) (ls:List Sl) (s:DS) (D:Ends),Gr W B0 H0 B H→W.ok s B H→Sm G W X.K H0 B H σ ls→jO G W X.K Wx B0 H0 (m ls s) D→t D σ H
structure SSs (G:Gd) (X:Cx) (Wx:WX) (st:List Stmt) (m:MS):Prop where
 ex:∃t,PSs X st t∧∀(W:Wd) (B0 H0:Hp) (σ:L2.St) (B H:Hp) (ls:List Sl) (s:DS) (D:Ends),Gr W B0 H0 B H→W.ok s B H→Sm G W X.K H0 B H σ ls→jO G W X.K Wx B0 H0 (m ls s) D→t D σ H
section
variable {W:Wd}{K:PySem.W.Frag}{Wx:WX}{B0 H0 B H:Hp}{D:Ends}{s:DS}{σ:L2.St}
theorem jO.bind {ma:M PV.D}{f:PV.D→M Fl}{Q:VK}(g0:Gr W B0 H0 B H) (h:jO G W K Wx B0 H0 (bnd ma f s) D)
  (hc:∀(d:PV.D) (s':DS) (v:V) (B1 H1:Hp),Gr W B H B1 H1→Gr W B0 H0 B1 H1→W.ok s' B1 H1→Dv K B1 v d→jO G W K Wx B0 H0 (f d s') D→Q v H1):Ans W K B H (ma s) Q (fun c d H'=>Wx c d σ H'):=by
 cases e:ma s with
 | ok d s'=>
  rw [aP e] at h
  exact fun v B1 H1 g w r=>hc d s' v B1 H1 g (g0.trans g) w r h
 | exc C fs s'=>
  rw [aC e] at h
  exact fun od B' H' g w x=>h od σ B' H' (g0.trans g) w x
 | stuck=>
  rw [aO e] at h
  exact h
theorem jO.bindL {ma:M (List PV.D)}{f:List PV.D→M Fl}{Q:VK}(g0:Gr W B0 H0 B H) (h:jO G W K Wx B0 H0 (bnd ma f s) D)
  (hc:∀(ds:List PV.D) (s':DS) (p:Addr) (vs:List V) (B1 H1:Hp),Gr W B H B1 H1→Gr W B0 H0 B1 H1→W.ok s' B1 H1→H p=none→¬W.gq p→B1 p=none→H1 p=some (.lst vs)→DvL K B1 vs ds→jO G W K Wx B0 H0 (f ds s') D→Q (.ref p) H1):pX W K B H (ma s) Q (fun c d H'=>Wx c d σ H'):=by
 cases e:ma s with
 | ok d s'=>
  rw [aP e] at h
  exact fun p vs B1 H1 g w hn nv hb hp r=>hc d s' p vs B1 H1 g (g0.trans g) w hn nv hb hp r h
 | exc C fs s'=>
  rw [aC e] at h
  exact fun od B' H' g w x=>h od σ B' H' (g0.trans g) w x
 | stuck=>
  rw [aO e] at h
  exact h
theorem jO.bindB {ma:M Bool}{f:Bool→M Fl}{Q:Bool→Hp→Prop}(g0:Gr W B0 H0 B H) (h:jO G W K Wx B0 H0 (bnd ma f s) D)
  (hc:∀(b:Bool) (s':DS) (B1 H1:Hp),Gr W B H B1 H1→Gr W B0 H0 B1 H1→W.ok s' B1 H1→jO G W K Wx B0 H0 (f b s') D→Q b H1):rB W K B H (ma s) Q (fun c d H'=>Wx c d σ H'):=by
 cases e:ma s with
 | ok d s'=>
  rw [aP e] at h
  exact fun B1 H1 g w=>hc d s' B1 H1 g (g0.trans g) w h
 | exc C fs s'=>
  rw [aC e] at h
  exact fun od B' H' g w x=>h od σ B' H' (g0.trans g) w x
 | stuck=>
  rw [aO e] at h
  exact h
theorem jO.gD {ma:M PV.D}{f:PV.D→M Fl}{Q:VK}(g0:Gr W B0 H0 B H) (h:jO G W K Wx B0 H0 (bnd ma f s) D)
  (hc:∀(d:PV.D) (s':DS) (v:V) (B1 H1:Hp),Gr W B H B1 H1→Gr W B0 H0 B1 H1→W.ok s' B1 H1→Db W K B1 H1 v d→jO G W K Wx B0 H0 (f d s') D→Q v H1):QD W K B H (ma s) Q (fun c d H'=>Wx c d σ H'):=by
 cases e:ma s with
 | ok d s'=>
  rw [aP e] at h
  exact fun v B1 H1 g w r=>hc d s' v B1 H1 g (g0.trans g) w r h
 | exc C fs s'=>
  rw [aC e] at h
  exact fun od B' H' g w x=>h od σ B' H' (g0.trans g) w x
 | stuck=>
  rw [aO e] at h
  exact h
end
section
variable {X:Cx}{Wx:WX}{st:Stmt}{rest:List Stmt}{m m':MS}{e a b c:Expr}{me ma mb:bJ D}{pos:Pos}
theorem bH:SSs G X Wx [] (fun ls=>ret (.nx ls)):=⟨_,pss_nil,fun W B0 H0 σ B H ls s D g w sm h=>h σ B H g w sm⟩
def aR (m m':MS):MS:=fun ls=>bnd (m ls) fun f=>match f with
 | .nx ls'=>m' ls'
 | f=>ret f
theorem aF (h1:SS G X Wx st m) (h2:SSs G X Wx rest m'):SSs G X Wx (st::rest) (aR m m'):=by
 obtain ⟨t,pt,ht⟩:=h1.ex
 obtain ⟨u,pu,hu⟩:=h2.ex
 refine ⟨_,pss_cons pt pu,fun W B0 H0 σ B H ls s D g w sm h=> ?_⟩
 refine ht W B0 H0 σ B H ls s _ g w sm ?_
 unfold aR at h
 cases e:m ls s with
 | stuck=>rw [aO e] at h;exact h
 | exc C fs s'=>rw [aC e] at h;exact h
 | ok f s'=>
  rw [aP e] at h
  cases f with
  | nx ls'=>exact fun σ' B' H' g' w' sm'=>hu W B0 H0 σ' B' H' ls' s' D g' w' sm' h
  | rt d=>exact h
  | rl d=>exact h
  | bk l=>exact h
  | ct l=>exact h
theorem aK (h1:SS G X Wx st m):SSs G X Wx [st] m:=by
 obtain ⟨t,pt,ht⟩:=h1.ex
 exact ⟨_,pss_one pt,ht⟩
theorem fV (he:SE G X Wx e me) (hs:swapsWith e none pos.line X.env=pure false:=by rfl):SS G X Wx (.Expr e pos) (fun ls=>bnd (me ls) fun _=>ret (.nx ls)):=by
 obtain ⟨t,pt,ht⟩:=he.ex
 refine ⟨_,ps_expr pt hs,fun W B0 H0 σ B H ls s D g w sm h=> ?_⟩
 exact ht W H0 σ B H ls s _ g.kn w sm (h.bind g fun d s' v B1 H1 g1 g2 w1 r1 h1=>h1 σ B1 H1 g2 w1 (sm.grow g1))
theorem bA (he:SE G X Wx e me):SS G X Wx (.Return (some e) pos) (fun ls=>bnd (me ls) fun d=>ret (.rt d)):=by
 obtain ⟨t,pt,ht⟩:=he.ex
 refine ⟨_,ps_ret pt,fun W B0 H0 σ B H ls s D g w sm h=> ?_⟩
 exact ht W H0 σ B H ls s _ g.kn w sm (h.bind g fun d s' v B1 H1 g1 g2 w1 r1 h1=>h1 v B1 H1 g2 w1 r1)
theorem Gr.freeze {W:Wd}{B0 H0 B H:Hp}{p:Addr}{vs:List V}(g:Gr W B0 H0 B H) (nv:¬W.gq p) (h0:H0 p=none) (hp:H p=some (.lst vs)) (hb:B p=none):Gr W B0 H0 (upd B p (.lst vs)) H:=by
 refine ⟨fun a o z=> ?_,g.bb.trans (bh hb),g.hx,fun a o z im=> ?_⟩
 ·by_cases ha:a=p
  ·subst ha
   rw [upd_same] at z
   cases z
   exact ⟨nv,Or.inl ⟨rfl,hp⟩⟩
  ·rw [upd_ne ha] at z
   exact g.kn a o z
 ·rw [upd_ne (ne_of_none z h0)]
  exact g.nw a o z im
def Lz (i:Nat):MS:=fun ls=>match ls[i]? with
 | some (.ow ds)=>ret (.rt (.lst ds))
 | _=>stk
theorem Uz {i:Nat}{x:Str}{p':Pos}(hN:X.N[i]?=some x:=by rfl) (hv:Vis X.env.scope x:=by first | exact Or.inl rfl | exact Or.inr (Or.inl rfl) | exact Or.inr (Or.inr rfl)) (hd:(x==("__debug__" : Str))=false:=by decide)
  (hcd:(x==("__classdict__" : Str))=false:=by decide):SS G X Wx (.Return (some (.Name x p')) pos) (Lz i):=by
 refine ⟨_,ps_ret (pe_var hN hv hd hcd),fun W B0 H0 σ B H ls s D g w sm h=> ?_⟩
 unfold Lz at h
 cases e:ls[i]? with
 | none=>
  rw [e] at h
  exact (show False from h).elim
 | some sl=>
  rw [e] at h
  cases sl with
  | ow ds=>
   obtain ⟨ov,e1,p,vs,rfl,nv,h0,hp,hb,r⟩:=sm.sl i _ e
   exact ⟨_,e1,h (.ref p) _ H (g.freeze nv h0 hp hb) (w.U0 hb) (.lst upd_same (r.mono (bh hb)))⟩
  | un=>exact (show False from h).elim
  | cl=>exact (show False from h).elim
  | od kvs=>exact (show False from h).elim
  | oi kvs=>exact (show False from h).elim
  | on kvs=>exact (show False from h).elim
  | bo d=>exact (show False from h).elim
  | bz d=>exact (show False from h).elim
  | va ds=>exact (show False from h).elim
def frz (i:Nat) (ls:List Sl):List Sl:=match ls[i]? with
 | some (.ow ds)=>ls.set i (.va (.lst ds))
 | _=>ls
theorem Sm.frz {W:Wd}{K:PySem.W.Frag}{B0 H0 B H:Hp}{σ:L2.St}{ls:List Sl}(i:Nat) (g:Gr W B0 H0 B H) {s:DS}(w:W.ok s B H) (sm:Sm G W K H0 B H σ ls):∃B',Gr W B0 H0 B' H∧W.ok s B' H∧Sm G W K H0 B' H σ (frz i ls):=by
 unfold PV.frz
 cases e:ls[i]? with
 | none=>exact ⟨B,g,w,sm⟩
 | some sl=>
  cases sl with
  | un=>exact ⟨B,g,w,sm⟩
  | cl=>exact ⟨B,g,w,sm⟩
  | va d=>exact ⟨B,g,w,sm⟩
  | od kvs=>exact ⟨B,g,w,sm⟩
  | oi kvs=>exact ⟨B,g,w,sm⟩
  | on kvs=>exact ⟨B,g,w,sm⟩
  | bo d=>exact ⟨B,g,w,sm⟩
  | bz d=>exact ⟨B,g,w,sm⟩
  | ow ds=>
   obtain ⟨ov,e1,p,vs,rfl,nv,h0,hp,hb,r⟩:=sm.sl i _ e
   have hs:Sub B (upd B p (.lst vs)):=bh hb
   refine ⟨upd B p (.lst vs),g.freeze nv h0 hp hb,w.U0 hb,?_⟩
   have ei:σ.set i (some (.ref p))=σ:=by
    have hlt:i<σ.length:=(List.getElem?_eq_some_iff.mp e1).1
    have e2:σ[i]=some (.ref p):=(List.getElem?_eq_some_iff.mp e1).2
    rw [←e2,List.set_getElem_self]
   refine ⟨by simp [sm.len],fun j x ej=> ?_,fun j k es fs q hjk e2 e3 o2 o3 e4=> ?_,G.mono hs (fun _ _ _ nt e=>⟨nt.upd,e⟩) sm.gd.1,sm.gd.2⟩
   ·rcases fu ej with ⟨rfl,rfl,hlt⟩ | ⟨hj,ej⟩
    ·exact ⟨_,e1,.ref p,rfl,.lst upd_same (r.mono hs)⟩
    ·obtain ⟨ov,e5,q⟩:=sm.sl j x ej
     refine ⟨ov,e5,?_⟩
     cases x with
     | un=>trivial
     | cl=>exact q
     | va d=>
      obtain ⟨v,e6,r6⟩:=q
      exact ⟨v,e6,r6.mono hs⟩
     | ow es=>
      obtain ⟨p',vs',rfl,nv',h0',hp',hb',r'⟩:=q
      refine ⟨p',vs',rfl,nv',h0',hp',?_,r'.mono hs⟩
      have ne:p'≠p:=fun z=>by
       subst z
       exact sm.dj j i _ _ p' hj ej e rfl rfl e5 e1
      rw [upd_ne ne]
      exact hb'
     | od kvs=>
      obtain ⟨p',ks',vs',ds',rfl,nv',h0',hp',hb',l',r',z'⟩:=q
      refine ⟨p',ks',vs',ds',rfl,nv',h0',hp',?_,l',r'.mono hs,z'⟩
      have ne:p'≠p:=fun z=>by
       subst z
       rw [hp] at hp'
       cases hp'
      rw [upd_ne ne]
      exact hb'
     | oi kvs=>
      obtain ⟨p',ks',vs',ds',rfl,nv',h0',hp',hb',l',r',z'⟩:=q
      refine ⟨p',ks',vs',ds',rfl,nv',h0',hp',?_,l',r'.mono hs,z'⟩
      have ne:p'≠p:=fun z=>by
       subst z
       rw [hp] at hp'
       cases hp'
      rw [upd_ne ne]
      exact hb'
     | on kvs=>
      obtain ⟨p',es',ds',rfl,nv',h0',hp',hb',l',r',z'⟩:=q
      refine ⟨p',es',ds',rfl,nv',h0',hp',?_,l'.mono fun _ _=>hs _ _,r'.mono hs,z'⟩
      have ne:p'≠p:=fun z=>by
       subst z
       rw [hp] at hp'
       cases hp'
      rw [upd_ne ne]
      exact hb'
     | bo d=>
      obtain ⟨p',u,rfl,nv',hp',hb',r'⟩:=q
      have ne:p'≠p:=fun z=>by
       subst z
       exact sm.dj i j _ _ p' (Ne.symm hj) e ej rfl rfl e1 e5
      exact ⟨p',u,rfl,nv',hp',hb'.imp (fun hb'=>by rw [upd_ne ne];exact hb') (fun ⟨hb',q⟩=>⟨hs _ _ hb',q.mono hs⟩),r'.mono hs⟩
     | bz d=>
      obtain ⟨p',u,rfl,nv',hp',hb',r'⟩:=q
      have ne:p'≠p:=fun z=>by
       subst z
       exact sm.dj i j _ _ p' (Ne.symm hj) e ej rfl rfl e1 e5
      exact ⟨p',u,rfl,nv',hp',hb'.imp (fun hb'=>by rw [upd_ne ne];exact hb') (fun ⟨hb',q⟩=>⟨hs _ _ hb',q.mono hs⟩),r'.1.mono hs,r'.2⟩
   ·rcases fu e2 with ⟨_,z,_⟩ | ⟨_,e2⟩
    ·rw [z] at o2;cases o2
    ·rcases fu e3 with ⟨_,z,_⟩ | ⟨_,e3⟩
     ·rw [z] at o3;cases o3
     ·exact sm.dj j k es fs q hjk e2 e3 o2 o3 e4
theorem Sy (i:Nat) (h:SSs G X Wx rest m):SSs G X Wx rest (fun ls=>m (frz i ls)):=by
 obtain ⟨t,pt,ht⟩:=h.ex
 refine ⟨_,pt,fun W B0 H0 σ B H ls s D g w sm h=> ?_⟩
 obtain ⟨B',g',w',sm'⟩:=sm.frz i g w
 exact ht W B0 H0 σ B' H _ s D g' w' sm' h
def Off (vs:List Nat) (σ σ':L2.St):Prop:=σ'.length=σ.length∧∀j,j∉vs→σ'[j]?=σ[j]?
theorem Off.refl (vs:List Nat) (σ:L2.St):Off vs σ σ:=⟨rfl,fun _ _=>rfl⟩
theorem Off.trans {vs us:List Nat}{σ σ1 σ2:L2.St}(a:Off vs σ σ1) (b:Off us σ1 σ2):Off (vs++us) σ σ2:=
 ⟨b.1.trans a.1,fun j h=>by rw [b.2 j (fun z=>h (List.mem_append_right _ z)),a.2 j (fun z=>h (List.mem_append_left _ z))]⟩
theorem Off.mono {vs us:List Nat}{σ σ1:L2.St}(a:Off vs σ σ1) (h:∀j∈vs,j∈us):Off us σ σ1:=⟨a.1,fun j n=>a.2 j fun z=>n (h j z)⟩
theorem Off.set (i:Nat) (o:Option V) (σ:L2.St):Off [i] σ (σ.set i o):=⟨by simp,fun j h=>by rw [List.getElem?_set_ne (fun z=>h (by simp [z]))]⟩
def Uu (G:Gd) (W:Wd) (K:PySem.W.Frag) (H0 B H:Hp) (s:DS) (is:List Nat) (σ0:L2.St) (r:Option (List Sl)) (Q:L2.St→Hp→Prop):Prop:=match r with
 | some ls=>∀(σ:L2.St) (B' H':Hp),Gr W B H B' H'→W.ok s B' H'→Sm G W K H0 B' H' σ ls→Off is σ0 σ→Q σ H'
 | none=>False
abbrev MG:=D→List Sl→Option (List Sl)
structure SG (G:Gd) (X:Cx) (tg:Expr) (is:List Nat) (m:MG):Prop where
 ex:∃t,PG X tg t∧∀(W:Wd) (H0:Hp) (σ:L2.St) (B H:Hp) (ls:List Sl) (s:DS) (v:V) (d:D) (Q:L2.St→Hp→Prop),Kn W B H→W.ok s B H→Sm G W X.K H0 B H σ ls→Dv X.K B v d→Uu G W X.K H0 B H s is σ (m d ls) Q→t v σ H Q
structure SGs (G:Gd) (X:Cx) (tgs:List Expr) (is:List Nat) (m:List D→List Sl→Option (List Sl)):Prop where
 ex:∃t,PGs X tgs t∧∀(W:Wd) (H0:Hp) (σ:L2.St) (B H:Hp) (ls:List Sl) (s:DS) (vs:List V) (ds:List D) (Q:L2.St→Hp→Prop),Kn W B H→W.ok s B H→Sm G W X.K H0 B H σ ls→DvL X.K B vs ds→Uu G W X.K H0 B H s is σ (m ds ls) Q→t vs σ H Q
def gQ (i:Nat):MG:=fun d ls=>some (ls.set i (.va d))
theorem bB {i:Nat}{x:Str}(hN:X.N.Nodup) (hi:X.N[i]?=some x:=by rfl) (hx:Loc X.env.scope x:=by first | exact Or.inl rfl | exact Or.inr rfl) (hf:X.fn x=true∨X.env.scope.names.lookup x=some .local:=by first | exact .inl rfl | exact .inr rfl | assumption):SG G X (.Name x pos) [i] (gQ i):=
 ⟨_,pg_name hN hi hx hf,fun W H0 σ B H ls s v d Q k w sm r h=>h _ B H (Gr.refl k) w (sm.wg r) (Off.set i _ σ)⟩
def lY:List D→List Sl→Option (List Sl):=fun ds ls=>match ds with
 | []=>some ls
 | _=>none
def cG (m:MG) (ms:List D→List Sl→Option (List Sl)):List D→List Sl→Option (List Sl):=fun ds ls=>match ds with
 | d::ds=>(m d ls).bind fun ls'=>ms ds ls'
 | []=>none
theorem j7:SGs G X [] [] lY:=by
 refine ⟨_,pgs_nil,fun W H0 σ B H ls s vs ds Q k w sm r h=> ?_⟩
 cases r with
 | nil=>exact ⟨rfl,h σ B H (Gr.refl k) w sm (Off.refl _ _)⟩
 | cons a r=>exact (show False from h).elim
theorem cJ {es:List Expr}{is js:List Nat}{mg:MG}{ms:List D→List Sl→Option (List Sl)}(h1:SG G X e is mg) (h2:SGs G X es js ms)
  (hs:(assignEach (e::es) X.env).map (·.2)=assign e X.env::(assignEach es X.env).map (·.2):=by rfl):SGs G X (e::es) (is++js) (cG mg ms):=by
 obtain ⟨t,pt,ht⟩:=h1.ex
 obtain ⟨u,pu,hu⟩:=h2.ex
 refine ⟨_,pgs_cons pt pu hs,fun W H0 σ B H ls s vs ds Q k w sm r h=> ?_⟩
 cases r with
 | nil=>exact (show False from h).elim
 | @cons v vs d ds a r=>
  refine ⟨v,vs,rfl,ht W H0 σ B H ls s v d _ k w sm a ?_⟩
  have h:Uu G W X.K H0 B H s (is++js) σ ((mg d ls).bind fun ls'=>ms ds ls') Q:=h
  cases e:mg d ls with
  | none=>rw [e] at h;exact h
  | some ls'=>
   rw [e] at h
   intro σ' B' H' g w' sm' off
   refine hu W H0 σ' B' H' ls' s vs ds Q g.kn w' sm' (r.mono g.bb) ?_
   have h:Uu G W X.K H0 B H s (is++js) σ (ms ds ls') Q:=h
   cases e2:ms ds ls' with
   | none=>rw [e2] at h;exact h
   | some ls2=>
    rw [e2] at h
    exact fun σ2 B2 H2 g2 w2 sm2 off2=>h σ2 B2 H2 (g.trans g2) w2 sm2 (off.trans off2)
def jY (n:Nat) (ms:List D→List Sl→Option (List Sl)):MG:=fun d ls=>match d with
 | .tup ds=>if ds.length=n then ms ds ls else none
 | _=>none
theorem qQ {es:List Expr}{is:List Nat}{k:Nat}{n:Nat}{ms:List D→List Sl→Option (List Sl)}(hc:X.calm=true) (h:SGs G X es is ms)
  (hn:(assignEach es X.env).length=n:=by rfl) (hst:(assignEach es X.env).findIdx? (·.1)=none:=by rfl):SG G X (.Tuple es k pos) is (jY n ms):=by
 obtain ⟨t,pt,ht⟩:=h.ex
 refine ⟨_,pg_tup hc pt hn hst,fun W H0 σ B H ls s v d Q k w sm r h=> ?_⟩
 unfold jY at h
 split at h
 ·split at h
  ·rename_i hl
   cases r with
   | tup hs r=>exact ⟨_,_,rfl,k.t hs,by rw [r.len];exact hl,ht W H0 σ B H ls s _ _ Q k w sm r h⟩
  ·exact h.elim
 ·exact (show False from h).elim
theorem dF {i:Nat}{x:Str}{pos':Pos}(hN:X.N.Nodup) (he:SE G X Wx e me) (hi:X.N[i]?=some x:=by rfl) (hx:Loc X.env.scope x:=by first | exact Or.inl rfl | exact Or.inr rfl) (hs:swapsWith e (some (.Name x pos')) pos.line X.env=pure false:=by rfl)
  (hf:X.fn x=true∨X.env.scope.names.lookup x=some .local:=by first | exact .inl rfl | exact .inr rfl | assumption):SS G X Wx (.Assign [.Name x pos'] e pos) (fun ls=>bnd (me ls) fun d=>ret (.nx (ls.set i (.va d)))):=by
 obtain ⟨t,pt,ht⟩:=he.ex
 refine ⟨_,ps_set hN hi hx pt hs hf,fun W B0 H0 σ B H ls s D g w sm h=> ?_⟩
 exact ht W H0 σ B H ls s _ g.kn w sm (h.bind g fun d s' v B1 H1 g1 g2 w1 r1 h1=>h1 _ B1 H1 g2 w1 ((sm.grow g1).wg r1))
theorem Sm.fresh {W:Wd}{K:PySem.W.Frag}{H0 B H:Hp}{σ:L2.St}{ls:List Sl}{p:Addr}(sm:Sm G W K H0 B H σ ls) (hn:H p=none) (j:Nat) (x:Sl) (e:ls[j]?=some x) (o:x.hold=true):σ[j]?≠some (some (.ref p)):=by
 obtain ⟨ov,e1,q⟩:=sm.sl j _ e
 rw [e1]
 intro z
 cases x with
 | ow es=>
  obtain ⟨q,vs,rfl,nv,h0,hp,hb,r⟩:=q
  cases z
  rw [hp] at hn
  cases hn
 | od kvs=>
  obtain ⟨q,ks,vs,ds,rfl,nv,h0,hp,hb,r⟩:=q
  cases z
  rw [hp] at hn
  cases hn
 | oi kvs=>
  obtain ⟨q,ks,vs,ds,rfl,nv,h0,hp,hb,r⟩:=q
  cases z
  rw [hp] at hn
  cases hn
 | on kvs=>
  obtain ⟨q,es,ds,rfl,nv,h0,hp,hb,r⟩:=q
  cases z
  rw [hp] at hn
  cases hn
 | bo d=>
  obtain ⟨p',u,rfl,nv,hp,hb,r⟩:=q
  cases z
  rw [hp] at hn
  cases hn
 | bz d=>
  obtain ⟨p',u,rfl,nv,hp,hb,r⟩:=q
  cases z
  rw [hp] at hn
  cases hn
 | _=>cases o
theorem rO {i:Nat}{x:Str}{pos':Pos}{ml:bJ (List D)}(hN:X.N.Nodup) (he:SL G X Wx e ml) (hi:X.N[i]?=some x:=by rfl) (hx:Loc X.env.scope x:=by first | exact Or.inl rfl | exact Or.inr rfl) (hs:swapsWith e (some (.Name x pos')) pos.line X.env=pure false:=by rfl)
  (hf:X.fn x=true∨X.env.scope.names.lookup x=some .local:=by first | exact .inl rfl | exact .inr rfl | assumption):SS G X Wx (.Assign [.Name x pos'] e pos) (fun ls=>bnd (ml ls) fun ds=>ret (.nx (ls.set i (.ow ds)))):=by
 obtain ⟨t,pt,ht⟩:=he.ex
 refine ⟨_,ps_set hN hi hx pt hs hf,fun W B0 H0 σ B H ls s D g w sm h=> ?_⟩
 refine ht W H0 σ B H ls s _ g.kn w sm (h.bindL g fun ds s' p vs B1 H1 g1 g2 w1 hn nv hb hp r1 h1=> ?_)
 have h0:H0 p=none:=by
  exact g.nn nv hn
 exact h1 _ B1 H1 g2 w1 ((sm.grow g1).Kw nv h0 hp hb r1 (fun j x ej ox=>sm.fresh hn j x ej ox))
def nxO (o:Option (List Sl)):M Fl:=match o with
 | some ls=>ret (.nx ls)
 | none=>stk
theorem K9 {tg:Expr}{is:List Nat}{mg:MG}(he:SE G X Wx e me) (hg:SG G X tg is mg) (hs:swapsWithSole [tg] e pos.line X.env=pure false:=by rfl) (hw:swappedStores [tg] e X.env=pure none:=by rfl)
  (h1:(assignEach [tg] X.env).map (·.2)=[assign tg X.env]:=by rfl):SS G X Wx (.Assign [tg] e pos) (fun ls=>bnd (me ls) fun d=>nxO (mg d ls)):=by
 obtain ⟨t,pt,ht⟩:=he.ex
 obtain ⟨u,pu,hu⟩:=hg.ex
 refine ⟨_,ps_asg pt pu hs hw h1,fun W B0 H0 σ B H ls s D g w sm h=> ?_⟩
 refine ht W H0 σ B H ls s _ g.kn w sm (h.bind g fun d s' v B1 H1 g1 g2 w1 r1 h1=> ?_)
 refine hu W H0 σ B1 H1 ls s' v d _ g1.kn w1 (sm.grow g1) r1 ?_
 cases e:mg d ls with
 | none=>rw [e] at h1;exact h1
 | some ls2=>
  rw [e] at h1
  exact fun σ2 B2 H2 g3 w2 sm2 _=>h1 σ2 B2 H2 (g2.trans g3) w2 sm2
def eY (n:bJ Bool) (m m':MS):MS:=fun ls=>bnd (n ls) fun x=>if x=true then m ls else m' ls
theorem cV {n:bJ Bool}{a b:List Stmt}(hc:ST G X Wx c n) (ha:SSs G X Wx a m) (hb:SSs G X Wx b m'):SS G X Wx (.If c a b pos) (eY n m m'):=by
 obtain ⟨tc,pc,hc⟩:=hc.ex
 obtain ⟨ta,pa,ha⟩:=ha.ex
 obtain ⟨tb,pb,hb⟩:=hb.ex
 refine ⟨_,ps_if pc pa pb,fun W B0 H0 σ B H ls s D g w sm h=> ?_⟩
 refine hc W H0 σ B H ls s _ g.kn w sm (h.bindB g fun x s' B1 H1 g1 g2 w1 h1=> ?_)
 cases x with
 | true=>
  rw [if_pos rfl] at h1 ⊢
  exact ha W B0 H0 σ B1 H1 ls s' D g2 w1 (sm.grow g1) h1
 | false=>
  rw [if_neg (by decide)] at h1 ⊢
  exact hb W B0 H0 σ B1 H1 ls s' D g2 w1 (sm.grow g1) h1
def Mw (i:Nat) (ls:List Sl) (f:List D→M Fl):M Fl:=match ls[i]? with
 | some (.ow ds)=>f ds
 | _=>stk
theorem Mg {W:Wd}{K:PySem.W.Frag}{Wx:WX}{B0 H0:Hp}{i:Nat}{ls:List Sl}{f:List D→M Fl}{s:DS}{D:Ends}(h:jO G W K Wx B0 H0 (Mw i ls f s) D):∃ds,ls[i]?=some (.ow ds)∧jO G W K Wx B0 H0 (f ds s) D:=by
 unfold Mw at h
 cases e:ls[i]? with
 | none=>rw [e] at h;exact (show False from h).elim
 | some sl=>
  rw [e] at h
  cases sl with
  | ow ds=>exact ⟨ds,rfl,h⟩
  | un=>exact (show False from h).elim
  | cl=>exact (show False from h).elim
  | od kvs=>exact (show False from h).elim
  | oi kvs=>exact (show False from h).elim
  | on kvs=>exact (show False from h).elim
  | bo d=>exact (show False from h).elim
  | bz d=>exact (show False from h).elim
  | va d=>exact (show False from h).elim
def jC (i:Nat) (me:bJ D):MS:=fun ls=>Mw i ls fun ds=>bnd (me ls) fun d=>if ds.length<sizeLine then ret (.nx (ls.set i (.ow (ds++[d])))) else stk
theorem Gr.chg {W:Wd}{B0 H0 B H:Hp}{p:Addr}{o:HO}(g:Gr W B0 H0 B H) (nv:¬W.gq p) (h0:H0 p=none) (hb:B p=none):Gr W B0 H0 B (upd H p o):=by
 refine ⟨fun a u z=>⟨(g.kn a u z).1,?_⟩,g.bb,fun a u n nt z=> ?_,g.nw⟩
 ·exact (g.kn a u z).2.off (ne_of_none z hb)
 ·rw [upd_ne (ne_of_none z h0)]
  exact g.hx a u n nt z
theorem Wd.ok.chg {W:Wd}{s:DS}{B H:Hp}{p:Addr}{vs us:List V}(w:W.ok s B H) (nv:¬W.gq p) (hb:B p=none) (hp:H p=some (.lst vs)):W.ok s B (upd H p (.lst us)):=by
 have ne:∀{a:Addr}{o:HO},H a=some o→(W.gq a∨∀vs,o ≠ .lst vs)→a≠p:=fun {a o} e h z=>by
  subst z
  rcases h with h | h
  ·exact nv h
  ·rw [hp] at e
   cases e
   exact h vs rfl
 refine ⟨fun q hq=> ?_,fun t ht=> ?_,w.at_,w.st_.off hb⟩
 ·have z:=w.dr q hq
  refine ⟨?_,?_,?_,z.ne⟩
  ·rw [upd_ne (ne z.m (Or.inl (Or.inl ⟨q,hq,Or.inl rfl⟩)))]
   exact z.m
  ·rw [upd_ne (ne z.c (Or.inl (Or.inl ⟨q,hq,Or.inr (Or.inl rfl)⟩)))]
   exact z.c
  ·rw [upd_ne (ne z.g (Or.inl (Or.inl ⟨q,hq,Or.inr (Or.inr rfl)⟩)))]
   exact z.g
 ·obtain ⟨ps,h1,h2,h3⟩:=w.tb t ht
  refine ⟨ps,?_,h2,fun pos cv hc=> ?_⟩
  ·rw [upd_ne (ne h1 (Or.inr fun vs z=>by cases z))]
   exact h1
  ·obtain ⟨c,e1,e2⟩:=h3 pos cv hc
   refine ⟨c,e1,?_⟩
   rw [upd_ne (ne e2 (Or.inr fun vs z=>by unfold LamX.CodeO at z;cases z))]
   exact e2
theorem Sm.chg {W:Wd}{K:PySem.W.Frag}{H0 B H:Hp}{σ:L2.St}{ls:List Sl}{i:Nat}{p:Addr}{ds es:List D}{us:List V}(sm:Sm G W K H0 B H σ ls) (ei:ls[i]?=some (.ow ds)) (es_:σ[i]?=some (some (.ref p))) (nv:¬W.gq p) (h0:H0 p=none) (hb:B p=none)
  (r:DvL K B us es):Sm G W K H0 B (upd H p (.lst us)) σ (ls.set i (.ow es)):=by
 refine ⟨by simp [sm.len],fun j x ej=> ?_,fun j k e1 e2 q hjk h1 h2 o1 o2 h3=> ?_,G.mono (Sub.refl _) (fun b q n nt e=>⟨nt,?_⟩) sm.gd.1,sm.gd.2⟩
 ·rcases fu ej with ⟨rfl,rfl,hlt⟩ | ⟨hj,ej⟩
  ·exact ⟨_,es_,p,us,rfl,nv,h0,upd_same,hb,r⟩
  ·obtain ⟨ov,e5,q⟩:=sm.sl j x ej
   refine ⟨ov,e5,?_⟩
   cases x with
   | un=>trivial
   | cl=>exact q
   | va d=>exact q
   | ow fs=>
    obtain ⟨p',vs',rfl,nv',h0',hp',hb',r'⟩:=q
    have ne:p'≠p:=fun z=>by
     subst z
     exact sm.dj j i _ _ p' hj ej ei rfl rfl e5 es_
    exact ⟨p',vs',rfl,nv',h0',by rw [upd_ne ne];exact hp',hb',r'⟩
   | od kvs=>
    obtain ⟨p',ks',vs',ds',rfl,nv',h0',hp',hb',l',r',z'⟩:=q
    have ne:p'≠p:=fun z=>by
     subst z
     exact sm.dj j i _ _ p' hj ej ei rfl rfl e5 es_
    exact ⟨p',ks',vs',ds',rfl,nv',h0',by rw [upd_ne ne];exact hp',hb',l',r',z'⟩
   | oi kvs=>
    obtain ⟨p',ks',vs',ds',rfl,nv',h0',hp',hb',l',r',z'⟩:=q
    have ne:p'≠p:=fun z=>by
     subst z
     exact sm.dj j i _ _ p' hj ej ei rfl rfl e5 es_
    exact ⟨p',ks',vs',ds',rfl,nv',h0',by rw [upd_ne ne];exact hp',hb',l',r',z'⟩
   | on kvs=>
    obtain ⟨p',es',ds',rfl,nv',h0',hp',hb',l',r',z'⟩:=q
    have ne:p'≠p:=fun z=>by
     subst z
     exact sm.dj j i _ _ p' hj ej ei rfl rfl e5 es_
    exact ⟨p',es',ds',rfl,nv',h0',by rw [upd_ne ne];exact hp',hb',l',r',z'⟩
   | bo d=>
    obtain ⟨p',u,rfl,nv',hp',hb',r'⟩:=q
    have ne:p'≠p:=fun z=>by
     subst z
     exact sm.dj i j _ _ p' (Ne.symm hj) ei ej rfl rfl es_ e5
    exact ⟨p',u,rfl,nv',by rw [upd_ne ne];exact hp',hb',r'⟩
   | bz d=>
    obtain ⟨p',u,rfl,nv',hp',hb',r'⟩:=q
    have ne:p'≠p:=fun z=>by
     subst z
     exact sm.dj i j _ _ p' (Ne.symm hj) ei ej rfl rfl es_ e5
    exact ⟨p',u,rfl,nv',by rw [upd_ne ne];exact hp',hb',r'⟩
 ·have key:∀{n:Nat}{x:Sl},(ls.set i (.ow es))[n]?=some x→x.own=true→∃x',ls[n]?=some x'∧x'.own=true:=fun {n x} z ox=>by
   rcases fu z with ⟨rfl,_,_⟩ | ⟨_,z⟩
   ·exact ⟨_,ei,rfl⟩
   ·exact ⟨x,z,ox⟩
  have key2:∀{n:Nat}{x:Sl},(ls.set i (.ow es))[n]?=some x→x.hold=true→∃x',ls[n]?=some x'∧x'.hold=true:=fun {n x} z ox=>by
   rcases fu z with ⟨rfl,_,_⟩ | ⟨_,z⟩
   ·exact ⟨_,ei,rfl⟩
   ·exact ⟨x,z,ox⟩
  obtain ⟨f1,z1,u1⟩:=key h1 o1
  obtain ⟨f2,z2,u2⟩:=key2 h2 o2
  exact sm.dj j k f1 f2 q hjk z1 z2 u1 u2 h3
 ·obtain ⟨ov,z1,q1,vs1,z2,_,_,z3,_⟩:=sm.sl i _ ei
  subst z2
  rw [es_] at z1
  cases z1
  rw [upd_ne (fun z=>by rw [z,z3] at e;unfold LamX.CodeO at e;cases e)]
  exact e
theorem cO {i:Nat}{x:Str}{p1 p2 pos':Pos}(he:SE G X Wx e me) (hN:X.N[i]?=some x:=by rfl) (hv:Vis X.env.scope x:=by first | exact Or.inl rfl | exact Or.inr (Or.inl rfl) | exact Or.inr (Or.inr rfl)) (hd:(x==("__debug__" : Str))=false:=by decide)
  (hcd:(x==("__classdict__" : Str))=false:=by decide)
  (hbase:attributeBase (.Name x p1) "append" X.env (eval (.Name x p1) X.env)=eval (.Name x p1) X.env:=by rfl)
  (hfew:((backTo pos (starEach [e] X.env)).all (fun x=> !x.1)&&(backToKw pos (keywordEach [] X.env)).all (fun x=>x.1.isSome)
   && decide ([e].length+([]:List Keyword).length+(if ([]:List Keyword).isEmpty then 0 else 1)<30))=true:=by rfl)
  (hline:(p2.endLine==pos.line)=true:=by rfl) (hs:starEach [e] X.env=(false,eval e X.env)::starEach [] X.env:=by rfl) (hplain:(backTo pos (starEach [] X.env)).any (·.1)=false:=by rfl)
  (hsw:swapsWith (.Call (.Attribute (.Name x p1) "append" p2) [e] [] pos) none pos'.line X.env=pure false:=by rfl) :
  SS G X Wx (.Expr (.Call (.Attribute (.Name x p1) "append" p2) [e] [] pos) pos') (jC i me):=by
 obtain ⟨t,pt,ht⟩:=he.ex
 refine ⟨_,ps_expr (pe_bm PySem.F.plainAttrs_list PySem.F.slot_list_append PySem.F.type_list_append mt_append (pe_var hN hv hd hcd) (pa_cons pt pa_nil hs) hbase hfew hline hs hplain) hsw,fun W B0 H0 σ B H ls s D g w sm h=> ?_⟩
 obtain ⟨ds,ei,h⟩:=Mg h
 obtain ⟨ov,e1,p,vs,rfl,nv,h0,hp,hb,r⟩:=sm.sl i _ ei
 refine ⟨_,e1,Or.inl ⟨rfl,vs,SqL.of hp⟩,?_⟩
 refine ht W H0 σ B H ls s _ g.kn w sm (h.bind g fun d s' v B1 H1 g1 g2 w1 r1 h1=> ?_)
 split at h1
 ·rename_i hl
  have hp1:=g1.hh p _ nv (Nt.none hb) hp
  have hb1:B1 p=none:=by rw [g1.nw p _ hp rfl];exact hb
  exact ⟨p,vs,v,rfl,rfl,hp1,by rw [r.len];exact hl,h1 σ B1 _ (g2.chg nv h0 hb1) (w1.chg nv hb1 hp1) ((sm.grow g1).chg ei e1 nv h0 hb1 ((r.mono g1.bb).app (.cons r1 .nil)))⟩
 ·exact h1.elim
end
variable {G:Gd}
theorem Gr.mid {W:Wd}{B0 H0 B1 H1:Hp}(g:Gr W B0 H0 B1 H1):Gr W B1 H0 B1 H1:=⟨g.kn,Sub.refl _,fun a o nv n h=>g.hx a o nv (n.imp (fun n=>n.back g.bb) id) h,fun _ _ _ _=>rfl⟩
theorem Gr.base {W:Wd}{B0 H0 B1 H1 B H:Hp}(g:Gr W B0 H0 B1 H1) (h:Gr W B1 H0 B H):Gr W B0 H0 B H:=⟨h.kn,g.bb.trans h.bb,fun a o nv n e=>h.hx a o nv (n.imp (fun n=>g.nt nv n e) id) e,fun a o e im=>by rw [h.nw a o e im,g.nw a o e im]⟩
theorem jO.base {W:Wd}{K:PySem.W.Frag}{Wx:WX}{B0 H0 B1 H1:Hp}{r:Res Fl}{D:Ends}(g:Gr W B0 H0 B1 H1) (h:jO G W K Wx B0 H0 r D):jO G W K Wx B1 H0 r D:=by
 cases r with
 | stuck=>exact h
 | exc C fs s'=>exact fun od σ B H g' w x=>h od σ B H (g.base g') w x
 | ok f s'=>
  cases f with
  | nx ls=>exact fun σ B H g' w sm=>h σ B H (g.base g') w sm
  | bk ls=>exact fun σ B H g' w sm=>h σ B H (g.base g') w sm
  | ct ls=>exact fun σ B H g' w sm=>h σ B H (g.base g') w sm
  | rt d=>exact fun v B H g' w r=>h v B H (g.base g') w r
  | rl d=>exact fun p vs B H g' w=>h p vs B H (g.base g') w
def Fz (W:Wd) (H1 H:Hp):Prop:=∀a o,¬W.gq a→o.fz=true→H1 a=some o→H a=some o
theorem Gr.fz {W:Wd}{B H B' H':Hp}(g:Gr W B H B' H'):Fz W H H':=fun a o v f e=>g.hx a o v (.inr f) e
def Fj (H0 H1:Hp):Hp:=fun a=>match H1 a with
 | some o=>if o.fz=true then some o else H0 a
 | none=>H0 a
theorem Ci {H0 H1:Hp}{a:Addr}{o:HO}(h:H1 a=some o) (f:o.fz=true):Fj H0 H1 a=some o:=by unfold Fj;rw [h];dsimp only;rw [if_pos f]
theorem Cj {H0 H1:Hp}{a:Addr}(h:∀o,H1 a=some o→o.fz=false):Fj H0 H1 a=H0 a:=by
 unfold Fj
 cases e:H1 a with
 | none=>rfl
 | some o=>dsimp only;rw [if_neg (by rw [h o e];decide)]
theorem Jt (H1:Hp) (a:Addr):(∃o,H1 a=some o∧o.fz=true)∨∀o,H1 a=some o→o.fz=false:=by
 cases e:H1 a with
 | none=>exact Or.inr fun o z=>by cases z
 | some o=>
  cases f:o.fz with
  | true=>exact Or.inl ⟨o,rfl,f⟩
  | false=>exact Or.inr fun o' z=>by cases z;exact f
theorem Gr.Fj {W:Wd}{B1 H0 H1:Hp}(g:Gr W B1 H0 B1 H1):Gr W B1 (Fj H0 H1) B1 H1:=⟨g.kn,Sub.refl _,fun a o v n e=>by
 rcases Jt H1 a with ⟨u,eu,f⟩ | nf
 ·rw [Ci eu f] at e;rw [eu];exact e
 ·rw [Cj nf] at e;exact g.hx a o v n e,fun _ _ _ _=>rfl⟩
theorem Gr.zm {W:Wd}{B1 H0 H1 B H:Hp}(g:Gr W B1 H0 B1 H1) (h:Gr W B1 (PV.Fj H0 H1) B H):Gr W B1 H0 B H:=⟨h.kn,h.bb,fun a o v n e=>by
 rcases Jt H1 a with ⟨u,eu,f⟩ | nf
 ·have e1:=g.hx a o v n e
  exact h.hx a o v n (by rw [eu] at e1;rw [Ci eu f];exact e1)
 ·exact h.hx a o v n (by rw [Cj nf];exact e),fun a o e im=>by
 rcases Jt H1 a with ⟨u,eu,f⟩ | nf
 ·exact h.nw a u (Ci eu f) (by cases u<;>first | rfl | cases f)
 ·exact h.nw a o (by rw [Cj nf];exact e) im⟩
theorem Gr.fz1 {W:Wd}{B1 H0 H1 B H:Hp}(h:Gr W B1 (PV.Fj H0 H1) B H):Fz W H1 H:=fun a o v f e=>h.hx a o v (.inr f) (Ci e f)
theorem Sm.Fj {G:Gd}{W:Wd}{K:PySem.W.Frag}{H0 H1 B H:Hp}{σ:L2.St}{ls:List Sl}(sm:Sm G W K H0 B H σ ls) (h1:∀a o,¬W.gq a→o.fz=true→H1 a=some o→H a=some o):Sm G W K (PV.Fj H0 H1) B H σ ls:=by
 have key:∀{p:Addr}{u:HO},¬W.gq p→H p=some u→u.fz=false→H0 p=none→PV.Fj H0 H1 p=none:=fun {p u} nv e f h0=>by
  rcases Jt H1 p with ⟨o,eo,fo⟩ | nf
  ·rw [h1 p o nv fo eo] at e;cases e;rw [f] at fo;cases fo
  ·rw [Cj nf];exact h0
 refine ⟨sm.len,fun i x e=> ?_,sm.dj,sm.gd⟩
 obtain ⟨ov,e1,q⟩:=sm.sl i x e
 refine ⟨ov,e1,?_⟩
 cases x with
 | un=>trivial
 | cl=>exact q
 | va d=>exact q
 | bo d=>exact q
 | bz d=>exact q
 | ow ds=>
  obtain ⟨p,vs,e,nv,h0,hp,r⟩:=q
  exact ⟨p,vs,e,nv,key nv hp rfl h0,hp,r⟩
 | od kvs=>
  obtain ⟨p,ks,vs,ds,e,nv,h0,hp,r⟩:=q
  exact ⟨p,ks,vs,ds,e,nv,key nv hp rfl h0,hp,r⟩
 | oi kvs=>
  obtain ⟨p,ks,vs,ds,e,nv,h0,hp,r⟩:=q
  exact ⟨p,ks,vs,ds,e,nv,key nv hp rfl h0,hp,r⟩
 | on kvs=>
  obtain ⟨p,es,ds,e,nv,h0,hp,r⟩:=q
  exact ⟨p,es,ds,e,nv,key nv hp rfl h0,hp,r⟩
theorem Sm.zm {G:Gd}{W:Wd}{K:PySem.W.Frag}{H0 H1 B H:Hp}{σ:L2.St}{ls:List Sl}(sm:Sm G W K (PV.Fj H0 H1) B H σ ls):Sm G W K H0 B H σ ls:=by
 have key:∀{p:Addr},PV.Fj H0 H1 p=none→H0 p=none:=fun {p} h0=>by
  rcases Jt H1 p with ⟨o,eo,fo⟩ | nf
  ·rw [Ci eo fo] at h0;cases h0
  ·rw [Cj nf] at h0;exact h0
 refine ⟨sm.len,fun i x e=> ?_,sm.dj,sm.gd⟩
 obtain ⟨ov,e1,q⟩:=sm.sl i x e
 refine ⟨ov,e1,?_⟩
 cases x with
 | un=>trivial
 | cl=>exact q
 | va d=>exact q
 | bo d=>exact q
 | bz d=>exact q
 | ow ds=>
  obtain ⟨p,vs,e,nv,h0,hp,r⟩:=q
  exact ⟨p,vs,e,nv,key h0,hp,r⟩
 | od kvs=>
  obtain ⟨p,ks,vs,ds,e,nv,h0,hp,r⟩:=q
  exact ⟨p,ks,vs,ds,e,nv,key h0,hp,r⟩
 | oi kvs=>
  obtain ⟨p,ks,vs,ds,e,nv,h0,hp,r⟩:=q
  exact ⟨p,ks,vs,ds,e,nv,key h0,hp,r⟩
 | on kvs=>
  obtain ⟨p,es,ds,e,nv,h0,hp,r⟩:=q
  exact ⟨p,es,ds,e,nv,key h0,hp,r⟩
def oV (strict:Bool) (W:Wd) (K:PySem.W.Frag) (B1 H1:Hp) (J:It) (ds:List D):Prop:=
 ∃(G:Hp→Prop) (Y:Nat→Hp→V→Hp→Prop),Walk J ds.length G Y∧(∀B H,Sub B1 B→Kn W B H→(strict=true→Ext W B1 H1 H)→Fz W H1 H→G H) ∧
  ∀(i:Nat) (B H:Hp) (x:V) (H':Hp) (s:DS),Sub B1 B→Kn W B H→W.ok s B H→i<ds.length→Y i H x H'→∃B' d,Gr W B H B' H'∧W.ok s B' H'∧ds[i]?=some d∧Dv K B' x d
def aaK (strict:Bool) (W:Wd) (K:PySem.W.Frag) (B H:Hp) (r:Res (List D)) (R:It→Hp→Prop) (E:XK):Prop:=match r with
 | .ok ds s'=>∀(J:It) (B' H':Hp),Gr W B H B' H'→W.ok s' B' H'→oV strict W K B' H' J ds→R J H'
 | .exc C fs s'=>XW W K B H C fs s' E
 | .stuck=>False
structure SI (G:Gd) (X:Cx) (Wx:WX) (strict:Bool) (tg iter:Expr) (m:bJ (List D)):Prop where
 ex:∃wi:TI,PI X tg iter wi∧∀(W:Wd) (H0:Hp) (σ:L2.St) (B H:Hp) (ls:List Sl) (s:DS) (R:It→Hp→Prop),Kn W B H→W.ok s B H→Sm G W X.K H0 B H σ ls→aaK strict W X.K B H (m ls s) R (fun c d H'=>Wx c d σ H')→wi σ H R
section
variable {X:Cx}{Wx:WX}{e tg:Expr}{me:bJ D}{pos p:Pos}
theorem PI.or {wi wj:TI}(h:PI X tg e wi) (h':PI X tg e wj):PI X tg e (fun σ H R=>wi σ H R∨wj σ H R):=
 ⟨fun pins s σ H R I q=>q.elim (h.run pins s σ H R I) (h'.run pins s σ H R I)⟩
def lB (me:bJ D):bJ (List D):=fun ls=>bnd (me ls) tZ
theorem tD {W:Wd}{K:PySem.W.Frag}{B H:Hp}{a:Addr}{vs:List V}{ds:List D}{strict:Bool}(nv:¬W.gq a) (nt:Nt B a) (hp:H a=some (.lst vs)) (hb:strict=false→B a=some (.lst vs)) (r:DvL K B vs ds):oV strict W K B H (Itl K a) ds:=by
 refine ⟨fun H=>SqL K H a vs,YAt vs,by rw [←r.len];exact walk_list,fun B' H' hs k hx _=> ?_,fun i B' H' x H2 s hs k w hi y=> ?_⟩
 ·cases strict with
  | true=>exact SqL.of (hx rfl a _ nv (.inl nt) hp)
  | false=>exact SqL.of (k.get (hs _ _ (hb rfl)))
 ·obtain ⟨rfl,hx⟩:=y
  obtain ⟨d,e,q⟩:=r.get hx
  exact ⟨B',d,Gr.refl k,w,e,q.mono hs⟩
theorem Hh {W:Wd}{K:PySem.W.Frag}{B H:Hp}{a:Addr}{o:Obj}{vs:List V}{ds:List D}{strict:Bool}(hp:B a=some (.frz o (.tup vs))) (r:DvL K B vs ds):oV strict W K B H (Itt K a) ds:=by
 refine ⟨fun H=>SqT K H a vs,YAt vs,by rw [←r.len];exact walk_tup,fun B' H' hs k hx _=>k.tp (hs _ _ hp),fun i B' H' x H2 s hs k w hi y=> ?_⟩
 obtain ⟨rfl,hx⟩:=y
 obtain ⟨d,e,q⟩:=r.get hx
 exact ⟨B',d,Gr.refl k,w,e,q.mono hs⟩
theorem Hq {W:Wd}{K:PySem.W.Frag}{B H:Hp}{a:Addr}{vs:List V}{ds:List D}{strict:Bool}(hp:B a=some (.tup vs)) (r:DvL K B vs ds):oV strict W K B H (Itt K a) ds:=by
 refine ⟨fun H=>SqT K H a vs,YAt vs,by rw [←r.len];exact walk_tup,fun B' H' hs k hx _=>k.t (hs _ _ hp),fun i B' H' x H2 s hs k w hi y=> ?_⟩
 obtain ⟨rfl,hx⟩:=y
 obtain ⟨d,e,q⟩:=r.get hx
 exact ⟨B',d,Gr.refl k,w,e,q.mono hs⟩
theorem Yb (he:SE G X Wx e me):SI G X Wx false tg e (lB me):=by
 obtain ⟨t,pt,ht⟩:=he.ex
 refine ⟨_,PI.or (pi_list pt) (pi_tup pt),fun W H0 σ B H ls s R k w sm h=> ?_⟩
 unfold lB at h
 cases e1:me ls s with
 | stuck=>rw [aO e1] at h;exact (show False from h).elim
 | exc C fs s'=>
  rw [aC e1] at h
  exact Or.inl (ht W H0 σ B H ls s _ k w sm (by rw [e1];exact h))
 | ok d s1=>
  rw [aP e1] at h
  unfold tZ at h
  split at h
  ·refine Or.inl (ht W H0 σ B H ls s _ k w sm ?_)
   rw [e1]
   intro v B1 H1 g1 w1 r1
   cases r1 with
   | lst hb r=>exact ⟨_,rfl,⟨_,SqL.of (g1.kn.get hb)⟩,h _ B1 H1 g1 w1 (tD (g1.kn _ _ hb).1 (.val hb rfl) (g1.kn.get hb) (fun _=>hb) r)⟩
  ·refine Or.inr (ht W H0 σ B H ls s _ k w sm ?_)
   rw [e1]
   intro v B1 H1 g1 w1 r1
   cases r1 with
   | tup hb r=>exact ⟨_,rfl,⟨_,g1.kn.t hb⟩,h _ B1 H1 g1 w1 (Hq hb r)⟩
  ·refine Or.inr (ht W H0 σ B H ls s _ k w sm ?_)
   rw [e1]
   intro v B1 H1 g1 w1 r1
   cases r1 with
   | qb hb _ r=>exact ⟨_,rfl,⟨_,g1.kn.tp hb⟩,h _ B1 H1 g1 w1 (Hh hb r)⟩
  ·exact (show False from h).elim
theorem nU (he:SO G X Wx e me):SI G X Wx true tg e (lB me):=by
 obtain ⟨t,pt,ht⟩:=he.ex
 refine ⟨_,PI.or (pi_list pt) (pi_tup pt),fun W H0 σ B H ls s R k w sm h=> ?_⟩
 unfold lB at h
 cases e1:me ls s with
 | stuck=>rw [aO e1] at h;exact (show False from h).elim
 | exc C fs s'=>
  rw [aC e1] at h
  exact Or.inl (ht W H0 σ B H ls s _ k w sm (by rw [e1];exact h))
 | ok d s1=>
  rw [aP e1] at h
  unfold tZ at h
  split at h
  ·refine Or.inl (ht W H0 σ B H ls s _ k w sm ?_)
   rw [e1]
   intro v B1 H1 g1 w1 r1
   rcases r1 with r1 | ⟨q,u,rfl,nv,hb,hp,r⟩
   ·cases r1 with
    | lst hb r=>exact ⟨_,rfl,⟨_,SqL.of (g1.kn.get hb)⟩,h _ B1 H1 g1 w1 (tD (g1.kn _ _ hb).1 (.val hb rfl) (g1.kn.get hb) (fun _=>hb) r)⟩
   ·cases r with
    | lst r=>exact ⟨_,rfl,⟨_,SqL.of hp⟩,h _ B1 H1 g1 w1 (tD nv (.none hb) hp (fun z=>nomatch z) r)⟩
  ·refine Or.inr (ht W H0 σ B H ls s _ k w sm ?_)
   rw [e1]
   intro v B1 H1 g1 w1 r1
   obtain ⟨q,vs,rfl,hb,r⟩:=r1.tup
   exact ⟨_,rfl,⟨_,g1.kn.t hb⟩,h _ B1 H1 g1 w1 (Hq hb r)⟩
  ·refine Or.inr (ht W H0 σ B H ls s _ k w sm ?_)
   rw [e1]
   intro v B1 H1 g1 w1 r1
   obtain ⟨q,o,vs,rfl,hb,_,r⟩:=r1.qb
   exact ⟨_,rfl,⟨_,g1.kn.tp hb⟩,h _ B1 H1 g1 w1 (Hh hb r)⟩
  ·exact (show False from h).elim
def sV (lo:Int) (n:Nat):List D:=(List.range n).map fun (i:Nat)=> .int (lo+(i:Int))
theorem GZ {W:Wd}{K:PySem.W.Frag}{B H:Hp}{lo:Int}{n:Nat}{strict:Bool}:oV strict W K B H (Itr lo n) (sV lo n):=by
 have hl:(sV lo n).length=n:=by simp [sV]
 refine ⟨fun _=>True,YFn fun i=> .int (lo+i),by rw [hl];exact walk_range,fun _ _ _ _ _ _=>trivial,fun i B' H' x H2 s hs k w hi y=> ?_⟩
 obtain ⟨rfl,rfl⟩:=y
 rw [hl] at hi
 refine ⟨B',.int (lo+i),Gr.refl k,w,?_,.int _⟩
 simp [sV,hi]
def oJ:List D→M (List D)
 | [.int n]=>if -(2^62)≤n∧n<2^62 then ret (sV 0 n.toNat) else stk
 | _=>stk
def Jy:List D→M (List D)
 | [.int a,.int b]=>if (-(2^62)≤a∧a<2^62) ∧ -(2^62)≤b∧b<2^62 then ret (sV a (b-a).toNat) else stk
 | _=>stk
theorem gY {a:Expr}{ms:bJ (List D)}{strict:Bool}(hg:Gl X "range") (hm:X.mg "range" = none) (ha:SA G X Wx [a] ms) (hs:starEach [a] X.env=[(false,eval a X.env)]:=by rfl):SI G X Wx strict tg (.Call (.Name "range" p) [a] [] pos) (fun ls=>bnd (ms ls) oJ):=by
 obtain ⟨t,pt,ht⟩:=ha.ex
 refine ⟨_,pi_range1 hg hm pt hs,fun W H0 σ B H ls s R k w sm h=> ?_⟩
 refine ht W H0 σ B H ls s _ k w sm ?_
 cases e1:ms ls s with
 | stuck=>rw [aO e1] at h;exact h
 | exc C fs s'=>rw [aC e1] at h;exact h
 | ok ds s1=>
  rw [aP e1] at h
  intro vs B1 H1 g1 w1 r1
  unfold oJ at h
  split at h
  ·split at h
   ·rename_i hc
    cases r1 with
    | cons a r=>cases a;cases r;exact ⟨_,rfl,hc.1,hc.2,h _ B1 H1 g1 w1 GZ⟩
   ·exact h.elim
  ·exact (show False from h).elim
theorem JZ {a b:Expr}{ms:bJ (List D)}{strict:Bool}(hg:Gl X "range") (hm:X.mg "range" = none) (ha:SA G X Wx [a,b] ms) (hs:starEach [a,b] X.env=[(false,eval a X.env),(false,eval b X.env)]:=by rfl) (hs2:starEach [b] X.env=[(false,eval b X.env)]:=by rfl) :
  SI G X Wx strict tg (.Call (.Name "range" p) [a,b] [] pos) (fun ls=>bnd (ms ls) Jy):=by
 obtain ⟨t,pt,ht⟩:=ha.ex
 refine ⟨_,pi_range2 hg hm pt hs hs2,fun W H0 σ B H ls s R k w sm h=> ?_⟩
 refine ht W H0 σ B H ls s _ k w sm ?_
 cases e1:ms ls s with
 | stuck=>rw [aO e1] at h;exact h
 | exc C fs s'=>rw [aC e1] at h;exact h
 | ok ds s1=>
  rw [aP e1] at h
  intro vs B1 H1 g1 w1 r1
  unfold Jy at h
  split at h
  ·split at h
   ·rename_i hc
    cases r1 with
    | cons a r=>
     cases a
     cases r with
     | cons a r=>cases a;cases r;exact ⟨_,_,rfl,⟨hc.1.1,hc.1.2,hc.2.1,hc.2.2⟩,h _ B1 H1 g1 w1 GZ⟩
   ·exact h.elim
  ·exact (show False from h).elim
def fH (mg:MG) (mb:MS):List D→List Sl→M Fl
 | [],ls=>ret (.nx ls)
 | d::ds,ls=>match mg d ls with
  | none=>stk
  | some ls1=>bnd (mb ls1) fun f=>match f with
   | .nx ls2=>fH mg mb ds ls2
   | .ct ls2=>fH mg mb ds ls2
   | .bk ls2=>ret (.nx ls2)
   | .rt d=>ret (.rt d)
   | .rl d=>ret (.rl d)
theorem drop_at {α:Type}{l:List α}{i:Nat}{a:α}(h:l[i]?=some a):l.drop i=a::l.drop (i+1):=by
 obtain ⟨hi,e⟩:=List.getElem?_eq_some_iff.mp h
 rw [List.drop_eq_getElem_cons hi,e]
theorem jO.Fj {W:Wd}{K:PySem.W.Frag}{Wx:WX}{B1 H0 H1:Hp}{r:Res Fl}{D:Ends}(g:Gr W B1 H0 B1 H1) (h:jO G W K Wx B1 H0 r D):jO G W K Wx B1 (PV.Fj H0 H1) r D:=by
 cases r with
 | stuck=>exact h
 | exc C fs s'=>exact fun od σ B H g' w x=>h od σ B H (g.zm g') w x
 | ok f s'=>
  cases f with
  | nx ls=>exact fun σ B H g' w sm=>h σ B H (g.zm g') w sm.zm
  | bk ls=>exact fun σ B H g' w sm=>h σ B H (g.zm g') w sm.zm
  | ct ls=>exact fun σ B H g' w sm=>h σ B H (g.zm g') w sm.zm
  | rt d=>exact fun v B H g' w r=>h v B H (g.zm g') w r
  | rl d=>exact fun p vs B H g' w h0=>h p vs B H (g.zm g') w (by
    rcases Jt H1 p with ⟨o,eo,fo⟩ | nf
    ·rw [Ci eo fo] at h0;cases h0
    ·rw [Cj nf] at h0;exact h0)
theorem oY {is:List Nat}{mi:bJ (List D)}{mg:MG}{mb:MS}{body:List Stmt}{iter:Expr}(hp:PassesOwn (model X.prog X.w) X.A X.env X.xe) (hc:X.calm=true) (hi:SI G X Wx false tg iter mi) (hg:SG G X tg is mg) (hb:SSs G X Wx body mb)
  (hs:∀x,foldedSetIterable iter X.env x=pure x:=by intro _;rfl):SS G X Wx (.For tg iter body [] pos) (fun ls=>bnd (mi ls) fun ds=>fH mg mb ds ls):=by
 obtain ⟨wi,pi,hi⟩:=hi.ex
 obtain ⟨tg,pg,hg⟩:=hg.ex
 obtain ⟨tb,pb,hb⟩:=hb.ex
 refine ⟨_,ps_for hp hc pi pg pb hs,fun W B0 H0 σ B H ls s D g0 w sm h=> ?_⟩
 refine hi W H0 σ B H ls s _ g0.kn w sm ?_
 cases e1:mi ls s with
 | stuck=>rw [aO e1] at h;exact h
 | exc C fs s'=>
  rw [aC e1] at h
  exact fun od B' H' g w x=>h od σ B' H' (g0.trans g) w x
 | ok ds s1=>
  rw [aP e1] at h
  intro J B1 H1 g1 w1 it
  have g01:=g0.trans g1
  obtain ⟨Γ,Y,wk,hG,hY⟩:=it
  refine for_it wk (fun i σ' H'=>∃B' ls' s',Gr W B1 (Fj H0 H1) B' H'∧W.ok s' B' H'∧Sm G W X.K (Fj H0 H1) B' H' σ' ls'∧jO G W X.K Wx B1 (Fj H0 H1) (fH mg mb (ds.drop i) ls' s') D)
   ⟨B1,ls,s1,g01.mid.Fj,w1,(sm.grow g1).Fj (fun _ _ _ _ e=>e),by rw [List.drop_zero];exact (h.base g01).Fj g01.mid⟩ (fun i σ' H' _ ⟨B',ls',s',g',_⟩=>hG B' H' g'.bb g'.kn (fun z=>nomatch z) g'.fz1) ?_ ?_
  ·rintro i x σ' H' H2 hlt ⟨B',ls',s',g',w',sm',a'⟩ y
   obtain ⟨B2,d,g2,w2,ed,r⟩:=hY i B' H' x H2 s' g'.bb g'.kn w' hlt y
   rw [drop_at ed] at a'
   unfold fH at a'
   refine hg W (Fj H0 H1) σ' B2 H2 ls' s' x d _ g2.kn w2 (sm'.grow g2) r ?_
   cases e2:mg d ls' with
   | none=>rw [e2] at a';exact a'
   | some ls1=>
    rw [e2] at a'
    intro σ3 B3 H3 g3 w3 sm3 off
    refine hb W B1 (Fj H0 H1) σ3 B3 H3 ls1 s' _ ((g'.trans g2).trans g3) w3 sm3 ?_
    have a':jO G W X.K Wx B1 (Fj H0 H1) (bnd (mb ls1) (fun f=>match f with
     | .nx ls2=>fH mg mb (ds.drop (i+1)) ls2
     | .ct ls2=>fH mg mb (ds.drop (i+1)) ls2
     | .bk ls2=>ret (.nx ls2)
     | .rt d=>ret (.rt d)
     | .rl d=>ret (.rl d)) s') D:=a'
    cases e3:mb ls1 s' with
    | stuck=>rw [aO e3] at a';exact a'
    | exc C fs s4=>rw [aC e3] at a';exact a'
    | ok f s4=>
     rw [aP e3] at a'
     cases f with
     | nx ls2=>exact fun σ4 B4 H4 g4 w4 sm4=>⟨B4,ls2,s4,g4,w4,sm4,a'⟩
     | ct ls2=>exact fun σ4 B4 H4 g4 w4 sm4=>⟨B4,ls2,s4,g4,w4,sm4,a'⟩
     | bk ls2=>exact a'
     | rt d=>exact a'
     | rl d=>exact a'
  ·rintro σ' H' ⟨B',ls',s',g',w',sm',a'⟩
   rw [List.drop_length] at a'
   exact a' σ' B' H' g' w' sm'
def fW (mt:bJ Bool) (mb:MS):Nat→List Sl→M Fl
 | 0,_=>stk
 | n+1,ls=>bnd (mt ls) fun b=>if b=true then bnd (mb ls) fun f=>match f with
   | .nx ls2=>fW mt mb n ls2
   | .ct ls2=>fW mt mb n ls2
   | .bk ls2=>ret (.nx ls2)
   | .rt d=>ret (.rt d)
   | .rl d=>ret (.rl d)
  else ret (.nx ls)
theorem Nh {mt:bJ Bool}{mb:MS}{body:List Stmt}{c:Expr}(n:Nat) (hp:PassesOwn (model X.prog X.w) X.A X.env X.xe) (hc:ST G X Wx c mt) (hb:SSs G X Wx body mb):SS G X Wx (.While c body [] pos) (fun ls=>fW mt mb n ls):=by
 obtain ⟨tc,pc,hc⟩:=hc.ex
 obtain ⟨tb,pb,hb⟩:=hb.ex
 refine ⟨_,ps_while hp pc pb,fun W B0 H0 σ B H ls s D g0 w sm h=> ?_⟩
 refine ⟨fun m σ' H'=>∃B' ls' s',Gr W B0 H0 B' H'∧W.ok s' B' H'∧Sm G W X.K H0 B' H' σ' ls'∧jO G W X.K Wx B0 H0 (fW mt mb m ls' s') D,⟨n,B,ls,s,g0,w,sm,h⟩,?_⟩
 rintro m σ' H' ⟨B',ls',s',g',w',sm',a'⟩
 cases m with
 | zero=>exact (show False from a').elim
 | succ m=>
  have a':jO G W X.K Wx B0 H0 (bnd (mt ls') (fun b=>if b=true then bnd (mb ls') fun f=>match f with
   | .nx ls2=>fW mt mb m ls2
   | .ct ls2=>fW mt mb m ls2
   | .bk ls2=>ret (.nx ls2)
   | .rt d=>ret (.rt d)
   | .rl d=>ret (.rl d)
   else ret (.nx ls')) s') D:=a'
  refine hc W H0 σ' B' H' ls' s' _ g'.kn w' sm' (a'.bindB g' fun x s1 B1 H1 g1 g2 w1 h1=> ?_)
  cases x with
  | true=>
   rw [if_pos rfl] at h1 ⊢
   refine ⟨fun σ4 H4=>∃B4 ls4 s4,Gr W B0 H0 B4 H4∧W.ok s4 B4 H4∧Sm G W X.K H0 B4 H4 σ4 ls4∧jO G W X.K Wx B0 H0 (fW mt mb m ls4 s4) D,fun σ4 H4 q=>⟨m,Nat.lt_succ_self m,q⟩,?_⟩
   refine hb W B0 H0 σ' B1 H1 ls' s1 _ g2 w1 (sm'.grow g1) ?_
   cases e3:mb ls' s1 with
   | stuck=>rw [aO e3] at h1;exact h1
   | exc C fs s4=>rw [aC e3] at h1;exact h1
   | ok f s4=>
    rw [aP e3] at h1
    cases f with
    | nx ls2=>exact fun σ4 B4 H4 g4 w4 sm4=>⟨B4,ls2,s4,g4,w4,sm4,h1⟩
    | ct ls2=>exact fun σ4 B4 H4 g4 w4 sm4=>⟨B4,ls2,s4,g4,w4,sm4,h1⟩
    | bk ls2=>exact h1
    | rt d=>exact h1
    | rl d=>exact h1
  | false=>
   rw [if_neg (by decide)] at h1 ⊢
   exact h1 σ' B1 H1 g2 w1 (sm'.grow g1)
def W0:WX:=fun _ _ _ _=>False
def nox {α:Type}(m:M α):M α:=fun s=>match m s with
 | .exc _ _ _=> .stuck
 | r=>r
structure STs (G:Gd) (X:Cx) (Wx:WX) (ifs:List Expr) (m:bJ Bool):Prop where
 ex:∃t,PTs X ifs t∧∀(W:Wd) (H0:Hp) (σ:L2.St) (B H:Hp) (ls:List Sl) (s:DS) (Q:Bool→Hp→Prop),Kn W B H→W.ok s B H→Sm G W X.K H0 B H σ ls→rB W X.K B H (m ls s) Q (fun c d H'=>Wx c d σ H')→t σ H Q
theorem fQ:STs G X Wx [] (fun _=>ret true):=⟨_,pts_nil,fun W H0 σ B H ls s Q k w sm h=>h.bU k w⟩
theorem KZ {c:Expr}{mt:bJ Bool}(h:ST G X Wx c mt):STs G X Wx [c] mt:=by
 obtain ⟨t,pt,ht⟩:=h.ex
 exact ⟨_,pts_one pt,ht⟩
def jA (ls:List Sl):List Nat→List Sl
 | []=>ls
 | v::vs=>(jA ls vs).set v .un
theorem Sm.wipe {W:Wd}{K:PySem.W.Frag}{H0 B H:Hp}{σ:L2.St}{ls:List Sl}(sm:Sm G W K H0 B H σ ls):∀vs:List Nat,Sm G W K H0 B H (L2.wipe σ vs) (jA ls vs)
 | []=>sm
 | v::vs=>(Sm.wipe sm vs).Qn
theorem Ac (σ:L2.St) (j:Nat):∀vs:List Nat,(L2.wipe σ vs)[j]?=if j∈vs∧j<σ.length then some none else σ[j]?
 | []=>by simp [L2.wipe]
 | v::vs=>by
  unfold L2.wipe
  by_cases hj:v=j
  ·subst hj
   by_cases hl:v<σ.length
   ·rw [List.getElem?_set_self (by rw [wipe_length];exact hl),if_pos ⟨by simp,hl⟩]
   ·rw [List.getElem?_eq_none (by simp [wipe_length];omega),if_neg (by simp [hl]),List.getElem?_eq_none (by omega)]
  ·rw [List.getElem?_set_ne hj,Ac σ j vs]
   by_cases hm:j∈vs
   ·simp [hm]
   ·have:¬j=v:=fun z=>hj z.symm
    simp [hm,this]
theorem Off.wipe {vs:List Nat}{σ σ':L2.St}(h:Off vs σ σ'):L2.wipe σ' vs=L2.wipe σ vs:=by
 apply List.ext_getElem?
 intro j
 rw [Ac,Ac,h.1]
 by_cases hj:j∈vs
 ·by_cases hl:j<σ.length
  ·rw [if_pos ⟨hj,hl⟩,if_pos ⟨hj,hl⟩]
  ·rw [if_neg (fun z=>hl z.2),if_neg (fun z=>hl z.2),List.getElem?_eq_none (by rw [h.1];omega),List.getElem?_eq_none (by omega)]
 ·rw [if_neg (fun z=>hj z.1),if_neg (fun z=>hj z.1),h.2 j hj]
theorem Uc (σ:L2.St) (vs:List Nat):L2.wipe (L2.wipe σ vs) vs=L2.wipe σ vs:=by
 apply List.ext_getElem?
 intro j
 rw [Ac,Ac,wipe_length]
 by_cases hj:j∈vs∧j<σ.length
 ·rw [if_pos hj,if_pos hj]
 ·rw [if_neg hj,if_neg hj]
def yQ (mg:MG) (mt:bJ Bool) (me:bJ D):List D→List Sl→M (List D)
 | [],_=>ret []
 | d::ds,ls=>match mg d ls with
  | none=>stk
  | some ls1=>bnd (nox (mt ls1)) fun b=>if b=true then bnd (nox (me ls1)) fun y=>bnd (yQ mg mt me ds ls) fun ys=>ret (y::ys) else yQ mg mt me ds ls
def qK (vs:List Nat) (mi:bJ (List D)) (mg:MG) (mt:bJ Bool) (me:bJ D):bJ (List D):=fun ls=>bnd (mi ls) fun ds=>if ds.length≤sizeLine then yQ mg mt me ds (jA ls vs) else stk
theorem XM {α:Type}(m:M α):(bnd m fun a=>ret a)=m:=by
 funext s
 unfold bnd
 cases m s<;>rfl
theorem RJ {K:PySem.W.Frag}{wi:TI}{is vs:List Nat}{mi:bJ (List D)}{mg:MG}{mt:bJ Bool}{me:bJ D}{tg:TG}{tt:TT}{te:TE}
  (hi:∀(W:Wd) (H0:Hp) (σ:L2.St) (B H:Hp) (ls:List Sl) (s:DS) (R:It→Hp→Prop),Kn W B H→W.ok s B H→Sm G W K H0 B H σ ls→aaK true W K B H (mi ls s) R (fun c d H'=>Wx c d σ H')→wi σ H R)
  (hg:∀(W:Wd) (H0:Hp) (σ:L2.St) (B H:Hp) (ls:List Sl) (s:DS) (v:V) (d:D) (Q:L2.St→Hp→Prop),Kn W B H→W.ok s B H→Sm G W K H0 B H σ ls→Dv K B v d→Uu G W K H0 B H s is σ (mg d ls) Q→tg v σ H Q)
  (ht:∀(W:Wd) (H0:Hp) (σ:L2.St) (B H:Hp) (ls:List Sl) (s:DS) (Q:Bool→Hp→Prop),Kn W B H→W.ok s B H→Sm G W K H0 B H σ ls→rB W K B H (mt ls s) Q (fun c d H'=>W0 c d σ H')→tt σ H Q)
  (he:∀(W:Wd) (H0:Hp) (σ:L2.St) (B H:Hp) (ls:List Sl) (s:DS) (Q:VK),Kn W B H→W.ok s B H→Sm G W K H0 B H σ ls→Ans W K B H (me ls s) Q (fun c d H'=>W0 c d σ H')→te σ H Q)
  (hv:∀j∈is,j∈vs) (W:Wd) (H0:Hp) (σ:L2.St) (B H:Hp) (ls:List Sl) (s:DS) (Q:VK) (k:Kn W B H) (w:W.ok s B H) (sm:Sm G W K H0 B H σ ls) (h:pX W K B H (qK vs mi mg mt me ls s) Q (fun c d H'=>Wx c d σ H')):tLc wi tg tt te vs σ H Q:=by
 refine hi W H0 σ B H ls s _ k w sm ?_
 unfold qK at h
 cases e1:mi ls s with
 | stuck=>rw [aO e1] at h;exact h
 | exc C fs s'=>rw [aC e1] at h;exact h
 | ok ds s1=>
  rw [aP e1] at h
  intro J B1 H1 g1 w1 it Dd hD
  split at h
  ·rename_i hlen
   have h:=h.grow g1 ⟨_,w1⟩
   have sm1:=(sm.grow g1).wipe vs
   have nvD:¬W.gq Dd:=fun v=>by
    obtain ⟨o,e⟩:=w1.dom v
    rw [e] at hD
    cases hD
   have nbD:B1 Dd=none:=cA g1.kn hD
   obtain ⟨Γ,Y,wk,hG,hY⟩:=it
   refine lc_it wk (fun i H'=>∃B' s' us acc,Gr W B1 H1 B' H'∧W.ok s' B' H'∧H' Dd=some (.lst us)∧B' Dd=none∧DvL K B' us acc∧acc.length≤i ∧
     pX W K B1 H1 (bnd (yQ mg mt me (ds.drop i) (jA ls vs)) (fun ys=>ret (acc++ys)) s') Q (fun c d H'=>Wx c d σ H'))
    ⟨B1,s1,[],[],Gr.lay g1.kn hD,w1.st (bh hD),upd_same,nbD,.nil,Nat.le_refl _,by rw [List.drop_zero];show pX W K B1 H1 ((bnd (yQ mg mt me ds (jA ls vs)) fun ys=>ret ys) s1) Q _;rw [XM];exact h⟩
    (fun i H' _ ⟨B',s',us,acc,g',_⟩=>hG B' H' g'.bb g'.kn (fun _=>g'.hx) g'.fz) ?_ ?_
   ·rintro i x H' H2 hlt ⟨B',s',us,acc,g',w',hp',hb',r',hl',a'⟩ y
    obtain ⟨B2,d,g2,w2,ed,r⟩:=hY i B' H' x H2 s' g'.bb g'.kn w' hlt y
    have hiz:acc.length<sizeLine:=by omega
    rw [drop_at ed] at a'
    unfold yQ at a'
    have g12:=g'.trans g2
    refine hg W H0 (L2.wipe σ vs) B2 H2 (jA ls vs) s' x d _ g2.kn w2 (sm1.grow g12) r ?_
    cases e2:mg d (jA ls vs) with
    | none=>rw [e2] at a';exact (show False from a').elim
    | some ls1=>
     rw [e2] at a'
     intro σ3 B3 H3 g3 w3 sm3 off
     have g13:=g12.trans g3
     refine ⟨by rw [(off.mono hv).wipe,Uc],?_⟩
     refine ht W H0 σ3 B3 H3 ls1 s' _ g3.kn w3 sm3 ?_
     have a':pX W K B1 H1 (bnd (bnd (nox (mt ls1)) fun b=>if b=true then bnd (nox (me ls1)) fun y=>bnd (yQ mg mt me (ds.drop (i+1)) (jA ls vs)) fun ys=>ret (y::ys) else yQ mg mt me (ds.drop (i+1)) (jA ls vs)) (fun ys=>ret (acc++ys)) s') Q (fun c d H'=>Wx c d σ H'):=a'
     rw [pF] at a'
     cases e3:mt ls1 s' with
     | stuck=>
      rw [aO (show nox (mt ls1) s' = .stuck by unfold nox;rw [e3])] at a'
      exact a'
     | exc C fs s4=>
      rw [aO (show nox (mt ls1) s' = .stuck by unfold nox;rw [e3])] at a'
      exact (show False from a').elim
     | ok b s4=>
      rw [aP (show nox (mt ls1) s' = .ok b s4 by unfold nox;rw [e3])] at a'
      intro B4 H4 g4 w4
      have g14:=g13.trans g4
      cases b with
      | false=>
       rw [if_neg (by decide)] at a' ⊢
       exact ⟨B4,s4,us,acc,g14,w4,((g2.trans g3).trans g4).hh Dd _ nvD (Nt.none hb') hp',by rw [((g2.trans g3).trans g4).nw Dd _ hp' rfl];exact hb',r'.mono ((g2.trans g3).trans g4).bb,by omega,a'⟩
      | true=>
       rw [if_pos rfl] at a' ⊢
       rw [pF] at a'
       refine he W H0 σ3 B4 H4 ls1 s4 _ g4.kn w4 (sm3.grow g4) ?_
       cases e5:me ls1 s4 with
       | stuck=>
        rw [aO (show nox (me ls1) s4 = .stuck by unfold nox;rw [e5])] at a'
        exact a'
       | exc C fs s5=>
        rw [aO (show nox (me ls1) s4 = .stuck by unfold nox;rw [e5])] at a'
        exact (show False from a').elim
       | ok z s5=>
        rw [aP (show nox (me ls1) s4 = .ok z s5 by unfold nox;rw [e5])] at a'
        intro v B5 H5 g5 w5 r5
        have g25:=((g2.trans g3).trans g4).trans g5
        have hp5:=g25.hh Dd _ nvD (Nt.none hb') hp'
        have hb5:B5 Dd=none:=by rw [g25.nw Dd _ hp' rfl];exact hb'
        refine ⟨us,hp5,by rw [r'.len];exact hiz,B5,s5,us++[v],acc++[z],?_,w5.chg nvD hb5 hp5,upd_same,hb5,(r'.mono g25.bb).app (.cons r5 .nil),by simp;omega,?_⟩
        ·exact (g14.trans g5).chg nvD hD hb5
        ·rw [pF] at a'
         have e6:(fun ys=>ret (acc++[z]++ys):List D→M (List D))=fun ys=>bnd (ret (z::ys)) fun ys=>ret (acc++ys):=by
          funext ys
          rw [Af,List.append_assoc]
          rfl
         rw [e6]
         exact a'
   ·rintro H' ⟨B',s',us,acc,g',w',hp',hb',r',hl',a'⟩
    rw [List.drop_length] at a'
    have a':pX W K B1 H1 (.ok (acc++[]) s') Q (fun c d H'=>Wx c d σ H'):=a'
    rw [List.append_nil] at a'
    exact a' Dd us B' H' g' w' hD nvD hb' hp' r'
  ·exact h.elim
theorem PG.imp {t t':TG}(h:PG X tg t) (q:∀v σ H Q,t' v σ H Q→t v σ H Q):PG X tg t':=⟨fun pins s σ H v u Q I r z=>h.run pins s σ H v u Q I r (q v σ H Q z)⟩
theorem PE.imp {t t':TE}(h:PE X e t) (q:∀σ H Q,t' σ H Q→t σ H Q):PE X e t':=⟨fun pins s σ H Q I z=>h.run pins s σ H Q I (q σ H Q z)⟩
theorem PTs.imp {ifs:List Expr}{t t':TT}(h:PTs X ifs t) (q:∀σ H Q,t' σ H Q→t σ H Q):PTs X ifs t':=⟨fun pins s σ H Q I z=>h.run pins s σ H Q I (q σ H Q z)⟩
def adV (G:Gd) (K:PySem.W.Frag) (is:List Nat) (mg:MG) (t:TG):Prop:=∀(W:Wd) (H0:Hp) (σ:L2.St) (B H:Hp) (ls:List Sl) (s:DS) (v:V) (d:D) (Q:L2.St→Hp→Prop),Kn W B H→W.ok s B H→Sm G W K H0 B H σ ls→Dv K B v d→Uu G W K H0 B H s is σ (mg d ls) Q→t v σ H Q
def adZ (G:Gd) (K:PySem.W.Frag) (mt:bJ Bool) (t:TT):Prop:=∀(W:Wd) (H0:Hp) (σ:L2.St) (B H:Hp) (ls:List Sl) (s:DS) (Q:Bool→Hp→Prop),Kn W B H→W.ok s B H→Sm G W K H0 B H σ ls→rB W K B H (mt ls s) Q (fun c d H'=>W0 c d σ H')→t σ H Q
def aeb (G:Gd) (K:PySem.W.Frag) (me:bJ D) (t:TE):Prop:=∀(W:Wd) (H0:Hp) (σ:L2.St) (B H:Hp) (ls:List Sl) (s:DS) (Q:VK),Kn W B H→W.ok s B H→Sm G W K H0 B H σ ls→Ans W K B H (me ls s) Q (fun c d H'=>W0 c d σ H')→t σ H Q
def Wu (G:Gd) (K:PySem.W.Frag) (is:List Nat) (mg:MG):TG:=fun v σ H Q=>∀t,adV G K is mg t→t v σ H Q
def Vu (G:Gd) (K:PySem.W.Frag) (mt:bJ Bool):TT:=fun σ H Q=>∀t,adZ G K mt t→t σ H Q
def VL (G:Gd) (K:PySem.W.Frag) (me:bJ D):TE:=fun σ H Q=>∀t,aeb G K me t→t σ H Q
theorem SG.all {is:List Nat}{mg:MG}(h:SG G X tg is mg):PG X tg (Wu G X.K is mg):=by
 obtain ⟨t,pt,ht⟩:=h.ex
 exact PG.imp pt fun v σ H Q z=>z t ht
theorem STs.all {ifs:List Expr}{mt:bJ Bool}(h:STs G X W0 ifs mt):PTs X ifs (Vu G X.K mt):=by
 obtain ⟨t,pt,ht⟩:=h.ex
 exact PTs.imp pt fun σ H Q z=>z t ht
theorem SE.all (h:SE G X W0 e me):PE X e (VL G X.K me):=by
 obtain ⟨t,pt,ht⟩:=h.ex
 exact PE.imp pt fun σ H Q z=>z t ht
theorem mG {elt iter:Expr}{ifs:List Expr}{scope:Scope}{own:List (Str×Nat)}{is:List Nat}{mi:bJ (List D)}{mg:MG}{mt:bJ Bool}(hc:X.calm=true) (hN:X.N.Nodup) (hi:SI G X Wx true tg iter mi) (ok:BlkOk X.N X.env.scope scope own)
  (hg:∀(s:Shared) (H:Hp) (C:Addr) (cl:List (Str×Addr)) (fp:List Addr),SG G (X.blk s H scope (compEnvC scope cl C X.env) fp) tg is mg) (ht:∀(s:Shared) (H:Hp) (C:Addr) (cl:List (Str×Addr)) (fp:List Addr),STs G (X.blk s H scope (compEnvC scope cl C X.env) fp) W0 ifs mt)
  (he:∀(s:Shared) (H:Hp) (C:Addr) (cl:List (Str×Addr)) (fp:List Addr),SE G (X.blk s H scope (compEnvC scope cl C X.env) fp) W0 elt me) (hv:∀j∈is,j∈own.map (·.2):=by decide) (hs:∀x,foldedSetIterable iter X.env x=pure x:=by intro _;rfl) :
  SL G X Wx (.ListComp elt [⟨tg,iter,ifs,0⟩] scope pos) (qK (own.map (·.2)) mi mg mt me):=by
 obtain ⟨wi,pi,hi⟩:=hi.ex
 refine ⟨_,pe_lc (g:=Wu G X.K is mg) (tt:=Vu G X.K mt) (te:=VL G X.K me) hc hN pi ok (fun s H C cl fp=>(hg s H C cl fp).all) (fun s H C cl fp=>(ht s H C cl fp).all) (fun s H C cl fp=>(he s H C cl fp).all) hs,?_⟩
 exact RJ (tg:=Wu G X.K is mg) (tt:=Vu G X.K mt) (te:=VL G X.K me) hi (fun W H0 σ B H ls s v d Q k w sm r h t z=>z W H0 σ B H ls s v d Q k w sm r h)
  (fun W H0 σ B H ls s Q k w sm h t z=>z W H0 σ B H ls s Q k w sm h) (fun W H0 σ B H ls s Q k w sm h t z=>z W H0 σ B H ls s Q k w sm h) hv
theorem G8 {i:Nat}{y:Str}{py:Pos}{elt iter:Expr}{ifs:List Expr}{scope:Scope}{own:List (Str×Nat)}{is:List Nat}{mi:bJ (List D)}{mg:MG}{mt:bJ Bool}{spos:Pos}(hc:X.calm=true) (hN:X.N.Nodup) (hy:X.N[i]?=some y) (hyl:X.env.scope.names.lookup y=some .local)
  (hsw:swapsWith (.ListComp elt [⟨tg,iter,ifs,0⟩] scope pos) (some (.Name y py)) spos.line X.env=pure true) (hi:SI G X Wx true tg iter mi) (ok:BlkOk X.N X.env.scope scope own)
  (hg:∀(s:Shared) (H:Hp) (C:Addr) (cl:List (Str×Addr)) (fp:List Addr),SG G (X.blk s H scope (compEnvC scope cl C X.env) fp) tg is mg) (ht:∀(s:Shared) (H:Hp) (C:Addr) (cl:List (Str×Addr)) (fp:List Addr),STs G (X.blk s H scope (compEnvC scope cl C X.env) fp) W0 ifs mt)
  (he:∀(s:Shared) (H:Hp) (C:Addr) (cl:List (Str×Addr)) (fp:List Addr),SE G (X.blk s H scope (compEnvC scope cl C X.env) fp) W0 elt me) (hv:∀j∈is,j∈own.map (·.2)) (hs:∀x,foldedSetIterable iter X.env x=pure x) :
  ∃t,PS X (.Assign [.Name y py] (.ListComp elt [⟨tg,iter,ifs,0⟩] scope pos) spos) (tAsg t (gName i))∧∀(W:Wd) (H0:Hp) (σ:L2.St) (B H:Hp) (ls:List Sl) (s:DS) (Q:VK),Kn W B H→W.ok s B H→Sm G W X.K H0 B H σ ls→pX W X.K B H (qK (own.map (·.2)) mi mg mt me ls s) Q (fun c d H'=>Wx c d σ H')→t σ H Q:=by
 obtain ⟨wi,pi,hi⟩:=hi.ex
 refine ⟨_,ps_setLc (g:=Wu G X.K is mg) (tt:=Vu G X.K mt) (te:=VL G X.K me) hc hN hy hyl hsw pi ok (fun s H C cl fp=>(hg s H C cl fp).all) (fun s H C cl fp=>(ht s H C cl fp).all) (fun s H C cl fp=>(he s H C cl fp).all) hs,?_⟩
 exact RJ (tg:=Wu G X.K is mg) (tt:=Vu G X.K mt) (te:=VL G X.K me) hi (fun W H0 σ B H ls s v d Q k w sm r h t z=>z W H0 σ B H ls s v d Q k w sm r h)
  (fun W H0 σ B H ls s Q k w sm h t z=>z W H0 σ B H ls s Q k w sm h) (fun W H0 σ B H ls s Q k w sm h t z=>z W H0 σ B H ls s Q k w sm h) hv
theorem T7 {i:Nat}{y:Str}{py:Pos}{elt iter:Expr}{ifs:List Expr}{scope:Scope}{own:List (Str×Nat)}{is:List Nat}{mi:bJ (List D)}{mg:MG}{mt:bJ Bool}{spos:Pos}(hc:X.calm=true) (hN:X.N.Nodup) (hsw:swapsWith (.ListComp elt [⟨tg,iter,ifs,0⟩] scope pos) (some (.Name y py)) spos.line X.env=pure true) (hi:SI G X Wx true tg iter mi) (ok:BlkOk X.N X.env.scope scope own)
  (hg:∀(s:Shared) (H:Hp) (C:Addr) (cl:List (Str×Addr)) (fp:List Addr),SG G (X.blk s H scope (compEnvC scope cl C X.env) fp) tg is mg) (ht:∀(s:Shared) (H:Hp) (C:Addr) (cl:List (Str×Addr)) (fp:List Addr),STs G (X.blk s H scope (compEnvC scope cl C X.env) fp) W0 ifs mt)
  (he:∀(s:Shared) (H:Hp) (C:Addr) (cl:List (Str×Addr)) (fp:List Addr),SE G (X.blk s H scope (compEnvC scope cl C X.env) fp) W0 elt me) (hv:∀j∈is,j∈own.map (·.2):=by decide) (hy:X.N[i]?=some y:=by rfl) (hyl:X.env.scope.names.lookup y=some .local:=by rfl) (hs:∀x,foldedSetIterable iter X.env x=pure x:=by intro _;rfl) :
  SS G X Wx (.Assign [.Name y py] (.ListComp elt [⟨tg,iter,ifs,0⟩] scope pos) spos) (fun ls=>bnd (qK (own.map (·.2)) mi mg mt me ls) fun ds=>ret (.nx (ls.set i (.ow ds)))):=by
 obtain ⟨t,pt,ht⟩:=G8 hc hN hy hyl hsw hi ok hg ht he hv hs
 refine ⟨_,pt,fun W B0 H0 σ B H ls s D g w sm h=> ?_⟩
 refine ht W H0 σ B H ls s _ g.kn w sm (h.bindL g fun ds s' p vs B1 H1 g1 g2 w1 hn nv hb hp r1 h1=> ?_)
 have h0:H0 p=none:=by
  exact g.nn nv hn
 exact h1 _ B1 H1 g2 w1 ((sm.grow g1).Kw nv h0 hp hb r1 (fun j x ej ox=>sm.fresh hn j x ej ox))
theorem Xn {i:Nat}{y:Str}{py:Pos}{elt iter:Expr}{ifs:List Expr}{scope:Scope}{own:List (Str×Nat)}{is:List Nat}{mi:bJ (List D)}{mg:MG}{mt:bJ Bool}{spos:Pos}(hc:X.calm=true) (hN:X.N.Nodup) (hsw:swapsWith (.ListComp elt [⟨tg,iter,ifs,0⟩] scope pos) (some (.Name y py)) spos.line X.env=pure true) (hi:SI G X Wx true tg iter mi) (ok:BlkOk X.N X.env.scope scope own)
  (hg:∀(s:Shared) (H:Hp) (C:Addr) (cl:List (Str×Addr)) (fp:List Addr),SG G (X.blk s H scope (compEnvC scope cl C X.env) fp) tg is mg) (ht:∀(s:Shared) (H:Hp) (C:Addr) (cl:List (Str×Addr)) (fp:List Addr),STs G (X.blk s H scope (compEnvC scope cl C X.env) fp) W0 ifs mt)
  (he:∀(s:Shared) (H:Hp) (C:Addr) (cl:List (Str×Addr)) (fp:List Addr),SE G (X.blk s H scope (compEnvC scope cl C X.env) fp) W0 elt me) (hv:∀j∈is,j∈own.map (·.2):=by decide) (hy:X.N[i]?=some y:=by rfl) (hyl:X.env.scope.names.lookup y=some .local:=by rfl) (hs:∀x,foldedSetIterable iter X.env x=pure x:=by intro _;rfl) :
  SS G X Wx (.Assign [.Name y py] (.ListComp elt [⟨tg,iter,ifs,0⟩] scope pos) spos) (fun ls=>bnd (qK (own.map (·.2)) mi mg mt me ls) fun ds=>ret (.nx (ls.set i (.va (.lst ds))))):=by
 obtain ⟨t,pt,ht⟩:=G8 hc hN hy hyl hsw hi ok hg ht he hv hs
 refine ⟨_,pt,fun W B0 H0 σ B H ls s D g w sm h=> ?_⟩
 refine ht W H0 σ B H ls s _ g.kn w sm (h.bindL g fun ds s' p vs B1 H1 g1 g2 w1 hn nv hb hp r1 h1=> ?_)
 have h0:H0 p=none:=by
  exact g.nn nv hn
 have hs:Sub B1 (upd B1 p (.lst vs)):=bh hb
 have gg:Gr W B H (upd B1 p (.lst vs)) H1:=⟨fun a o z=>by
  by_cases ha:a=p
  ·subst ha
   rw [upd_same] at z
   cases z
   exact ⟨nv,Or.inl ⟨rfl,hp⟩⟩
  ·rw [upd_ne ha] at z
   exact g1.kn a o z,g1.bb.trans hs,g1.hx,fun a o z im=>by
   rw [upd_ne (ne_of_none z hn)]
   exact g1.nw a o z im⟩
 exact h1 _ (upd B1 p (.lst vs)) H1 (g.trans gg) (w1.U0 hb) ((sm.grow gg).wg (.lst upd_same (r1.mono hs)))
end
variable {G:Gd}
def Km (K:PySem.W.Frag) (T:List NdefX.NTab) (n:Nat) (m:List D→M D):Sp:=fun vs H Q E=>vs.length=n∧∃(W:Wd) (B:Hp) (s:DS) (ds:List D),(W.tb=T∧W.fr=K)∧Kn W B H∧W.ok s B H∧DvL K B vs ds∧Ans W K B H (m ds s) Q E
def argL (n:Nat) (ds:List D):List Sl:=ds.map Sl.va++List.replicate (n-ds.length) Sl.un
def endF (f:Fl):M D:=match f with
 | .rt d=>ret d
 | .nx _=>ret .non
 | _=>stk
def dG (n:Nat) (mb:MS):List D→M D:=fun ds=>bnd (mb (argL n ds)) endF
theorem DvL.sm {W:Wd}{K:PySem.W.Frag}{H0 B H:Hp}{N:List Str}{vs:List V}{ds:List D}(r:DvL K B vs ds) (hl:vs.length≤N.length) (gd:G.p W B H∧W.tb=G.tb∧W.fr=K):Sm G W K H0 B H (L2.start N vs) (argL N.length ds):=by
 have el:=r.len
 refine ⟨?_,fun i x e=> ?_,fun i j x y p _ e _ o1 _ _=> ?_,gd⟩
 ·simp [L2.start,argL,el]
 ·unfold argL at e
  unfold L2.start
  by_cases hi:i<ds.length
  ·rw [List.getElem?_append_left (by simpa using hi),List.getElem?_map,List.getElem?_eq_getElem hi] at e
   cases e
   obtain ⟨v,e1,q⟩:=r.getD (List.getElem?_eq_getElem hi)
   refine ⟨some v,?_,v,rfl,q⟩
   rw [List.getElem?_append_left (by simp;omega),List.getElem?_map,e1]
   rfl
  ·rw [List.getElem?_append_right (by simp;omega)] at e
   have hx:x = .un:=by
    have:=List.mem_of_getElem? e
    exact (List.mem_replicate.mp this).2
   subst hx
   have hlt:i<N.length:=by
    have:=(List.getElem?_eq_some_iff.mp e).1
    simp at this
    omega
   refine ⟨none,?_,trivial⟩
   rw [List.getElem?_append_right (by simp;omega),List.getElem?_replicate,if_pos (by simp;omega)]
 ·unfold argL at e
  by_cases hi:i<ds.length
  ·rw [List.getElem?_append_left (by simpa using hi),List.getElem?_map,List.getElem?_eq_getElem hi] at e
   cases e
   cases o1
  ·rw [List.getElem?_append_right (by simp;omega)] at e
   have:=List.mem_of_getElem? e
   rw [(List.mem_replicate.mp this).2] at o1
   cases o1
section
variable {P:Program}{w:World}{K:PySem.W.Frag}{mg:Str→Option Value}{base:Heap}{x qual:Str}{params:Arguments}{body:List Stmt}{scope:Scope}{dvs:List V}{kws:List (Str×V)}{f:Addr}{fd:FuncData}
abbrev EW (E:XK):WX:=fun c d _ H=>E c d H
theorem Ry {X:Cx}{N:List Str}{E:XK}{mb:MS}{t:TS}{vs:List V}{ds:List D}{H B:Hp}{s:DS}{W:Wd}{Q:VK}(hl:vs.length≤N.length) (kn:Kn W B H) (wk:W.ok s B H) (r:DvL X.K B vs ds) (gd:G.p W B H∧W.tb=G.tb∧W.fr=X.K)
  (a:Ans W X.K B H (dG N.length mb ds s) Q E) (ht:∀(W:Wd) (B0 H0:Hp) (σ:L2.St) (B H:Hp) (ls:List Sl) (s:DS) (D:Ends),Gr W B0 H0 B H→W.ok s B H→Sm G W X.K H0 B H σ ls→jO G W X.K (EW E) B0 H0 (mb ls s) D→t D σ H) :
  t { nx:=fun _ H'=>Q .non H',rt:=Q} (L2.start N vs) H:=by
 refine ht W B H (L2.start N vs) B H (argL N.length ds) s _ (Gr.refl kn) wk (r.sm hl gd) ?_
 unfold dG at a
 cases e:mb (argL N.length ds) s with
 | stuck=>rw [aO e] at a;exact a
 | exc C fs s'=>
  rw [aC e] at a
  exact fun od σ B' H' g w x=>a od B' H' g w x
 | ok f s'=>
  rw [aP e] at a
  cases f with
  | nx ls=>exact fun σ B' H' g w sm=>a .non B' H' g w .non
  | rt d=>exact fun v B' H' g w r=>a v B' H' g w r
  | rl d=>exact (show False from a).elim
  | bk ls=>exact (show False from a).elim
  | ct ls=>exact (show False from a).elim
end
section
variable {X:Cx}{Wx:WX}{e:Expr}{es:List Expr}{ms:bJ (List D)}{pos p:Pos}
def aQ (n:Nat) (m:List D→M D) (ds:List D):M D:=if ds.length=n then m ds else stk
theorem Tr {t:TA}{n:Nat}{m:List D→M D}(ht:∀(W:Wd) (H0:Hp) (σ:L2.St) (B H:Hp) (ls:List Sl) (s:DS) (Q:List V→Hp→Prop),Kn W B H→W.ok s B H→Sm G W X.K H0 B H σ ls→Vn W X.K B H (ms ls s) Q (fun c d H'=>Wx c d σ H')→t σ H Q)
  (W:Wd) (H0:Hp) (σ:L2.St) (B H:Hp) (ls:List Sl) (s:DS) (Q:VK) (k:Kn W B H) (w:W.ok s B H) (sm:Sm G W X.K H0 B H σ ls) (h:Ans W X.K B H (bnd (ms ls) (aQ n m) s) Q (fun c d H'=>Wx c d σ H')) :
  t σ H fun vs H1=>Km X.K G.tb n m vs H1 Q (fun c d H'=>Wx c d σ H'):=by
 refine ht W H0 σ B H ls s _ k w sm ?_
 cases e1:ms ls s with
 | stuck=>rw [aO e1] at h;exact h
 | exc C fs s'=>rw [aC e1] at h;exact h
 | ok ds s1=>
  rw [aP e1] at h
  intro vs B1 H1 g1 w1 r1
  have h:=h.grow g1
  unfold aQ at h
  split at h
  ·rename_i hl
   exact ⟨by rw [r1.len];exact hl,W,B1,s1,ds,sm.gd.2,g1.kn,w1,r1,h⟩
  ·exact h.elim
end
end PV
namespace PV
open PySem PySem.W PySem.Calls PyProof.Rows L2
variable {G:Gd}
structure XC (K:Frag) (C:Addr) (B newId initId:String) (bmB:List Value):Prop where
 fb:ExcBaseFacts B newId initId bmB
 kx:KxsFacts B initId
 st:∀self,refuseLoop self "__setattr__" bmB=pure ()
 ob:bmB.contains (.type "object")=true
 cls:∃nm q N bs bm sn sub ab col dd k0 k1 k2 k3 k5,K.lookup C=some (excClassObj nm q C N bs bm true sn sub ab col dd k0 k1 k2 k3 k5 newId)∧excTail bmB bm=true
 sa:findIn K (.ref C) "__setattr__" = some (some (.builtin "object.__setattr__"))
 sup:ks_superIn K C C "__init__" = some (some (.builtin initId))
 subB:subIn K (.ref C) (.type B)=some true
 subC:subIn K (.ref C) (.ref C)=some true
 opq:nsIn K cStatics "thirdparty.any" = some none
 exC:subIn K (.ref C) (.type "BaseException")=some true
 tyC:typeIn K (.ref C)=some (.type "type")
 kC:keepIn K (.ref C)=true
section
variable {prog:Program}{w:World}{A:Around}{E:Value→Shared→Prop}{R:Result→Shared→Prop}{hp:Heap}{g:Array GenState}{d:Drawn}{t:Nat}{os:OsState}{K:Frag}{C:Addr}{B newId initId:String}{bmB:List Value}
theorem XC.cd (T:XC K C B newId initId bmB):∃cd:ClassData,clsIn K C=some cd∧cd.hasDict=true∧(∃bm,cd.mro = .ref C::bm)∧(∀self,refuseLoop self "__setattr__" cd.mro=pure ())∧cd.mro.contains (.type "object")=true:=by
 obtain ⟨nm,q,N,bs,bm,sn,sub,ab,col,dd,k0,k1,k2,k3,k5,hC,ht⟩:=T.cls
 have hm:excTail bmB (.ref C::bm)=true:=ht
 exact ⟨{ name:=nm,bases:=bs,mro:= .ref C::bm,ns:=N,qualname:=q,hasDict:=true,slotNames:=sn,subclasses:=sub,abstract:=ab,collection:=col,hasDel:=false},by unfold clsIn;rw [hC]<;>rfl,rfl,⟨bm,rfl⟩,
  fun self=>excTail_pass self (T.st self) _ hm,(excTail_contains "object" _ hm).trans T.ob⟩
theorem adi {name:Str}{tk:Tok}{v:Value}{x:Addr}{ox:Obj}{od:Option Obj}(T:XC K C B newId initId bmB) (X:K.In hp) (I:InstAt hp x ox C od) (ha:findIn K (.ref C) name=some none)
  (hq:wpAny (model prog w) A.in1 (Builtin.ObjectAttr.storeInOwnDict (.ref x) (.ref C) (.str name tk) name v false)
   (fun fin s'=>match fin with | .done f=>R (.ok f) s' | .again c'=>c'.quiet=true∧codeAny (model prog w) A c' R s') (fun e s'=>R (.error e) s') ⟨hp,g,d,t,os⟩) :
  codeAny (model prog w) A (.call (.builtin "object.__setattr__") ⟨[.ref x,.str name tk,v],[]⟩) R ⟨hp,g,d,t,os⟩:=by
 obtain ⟨cd,hcd,hh,⟨bm,em⟩,pass,hob⟩:=T.cd
 have SF:=F.store_object
 have isO:Looks (model prog w) hp (isInstance (.ref x) (.type "object")) true:=I.type.andThen (looks_mroIn X (by
  unfold mroIn
  rw [hcd,Option.bind_some,if_neg (by rw [em];exact Bool.false_ne_true),hob]))
 refine codeAny_call_builtin SF.slot.plain SF.entry (@check_slot (model prog w) _ _ ⟨hp,g,d,t,os⟩ "object.__setattr__" "object" "__setattr__" (.ref x) [.str name tk,v] [] _ SF.kind SF.split isO (SF.args (.ref x) (.str name tk) v) ?_)
 have m1:Looks (model prog w) hp (mroOf (.ref C)) cd.mro:=(looks_clsIn X hcd).andThen .now
 have m2:Looks (model prog w) hp (Builtin.ObjectAttr.storeTaker? none) none:= .now
 rw [osa_eq,refuse_eq]
 refine wpAny_bind (wpAny_bind (I.type.at (wpAny_bind (m1.at ?_))))
 rw [pass]
 exact wpAny_pure (wpAny_bind (I.type.at (wpAny_bind ((looks_findIn X ha).at (wpAny_bind (m2.at hq))))))
theorem Wk {name:Str}{tk:Tok}{v:Value}{x:Addr}{fv:Array Value}(T:XC K C B newId initId bmB) (X:K.In hp) (hx:hp.get? x=some { cls:= .ref C,data:= .fields fv}) (ha:findIn K (.ref C) name=some none)
  (hq:∀h' tk' dx,(∀b o,b≠x→hp.get? b=some o→h'.get? b=some o)→hp.objs.size≤dx→dx≠x→h'.get? x=some { cls:= .ref C,dict:=some dx,data:= .fields fv} →
   h'.Ns1 dx (fun y=>if y=name then some v else none)→R (.ok (.ret .none)) ⟨h',g,d,tk',os⟩) :
  codeAny (model prog w) A (.call (.builtin "object.__setattr__") ⟨[.ref x,.str name tk,v],[]⟩) R ⟨hp,g,d,t,os⟩:=by
 obtain ⟨cd,hcd,hh,_⟩:=T.cd
 have below:x≠hp.objs.size:=Nat.ne_of_lt (Heap.lt_size hx)
 refine adi T X (ox:={ cls:= .ref C,data:= .fields fv}) (od:=none) ⟨hx,rfl,rfl,trivial⟩ ha ?_
 have lc:Looks (model prog w) hp (classData C) cd:=looks_clsIn X hcd
 obtain ⟨nm,bs,mro,ns,qn,hd,sn,sb,ab,col,del⟩:=cd
 dsimp only at hh
 subst hh
 unfold Builtin.ObjectAttr.storeInOwnDict Builtin.ObjectAttr.ownDictForStores
 repeat (first | with_reducible refine HandSPX.store_in_new ?_ ?_ | with_reducible refine wpAny_loadPart_at hx ?_ | with_reducible refine lc.at ?_ | wp_step)
 ·exact ⟨_,#[],_,(Heap.get?_update_ne _ _ _ _ below.symm).trans (Heap.get?_push_at rfl rfl),rfl,fun e he=>absurd he (by simp),fun _=>rfl⟩
 ·intro h' tk' hn' hs
  refine hq h' tk' hp.objs.size (fun b o hb ho=> ?_) (Nat.le_refl _) below.symm ?_ hn'
  ·exact (hs.2 b (Nat.ne_of_lt (Heap.lt_size ho))).trans ((Heap.get?_update_ne _ _ _ _ hb).trans (Heap.get?_push_of_some _ ho))
  ·exact (hs.2 x below).trans (Heap.get?_update_self _ (Heap.get?_push_of_some _ hx) rfl)
theorem U9 {name:Str}{tk:Tok}{v:Value}{x dx:Addr}{fv:Array Value}{m0:Str→Option Value}{nl:List Str}(T:XC K C B newId initId bmB) (X:K.In hp) (hx:hp.get? x=some { cls:= .ref C,dict:=some dx,data:= .fields fv})
  (hns:hp.Ns1 dx m0) (hw:Within m0 nl) (hz:nl.length≤1000) (ha:findIn K (.ref C) name=some none)
  (hq:∀h' tk',(∀b o,b≠dx→hp.get? b=some o→h'.get? b=some o)→h'.Ns1 dx (fun y=>if y=name then some v else m0 y)→R (.ok (.ret .none)) ⟨h',g,d,tk',os⟩) :
  codeAny (model prog w) A (.call (.builtin "object.__setattr__") ⟨[.ref x,.str name tk,v],[]⟩) R ⟨hp,g,d,t,os⟩:=by
 obtain ⟨cd,hcd,hh,_⟩:=T.cd
 obtain ⟨oD,esD,epD,hoD,_⟩:=hns.count hw
 refine adi T X (ox:={ cls:= .ref C,dict:=some dx,data:= .fields fv}) (od:=some oD) ⟨hx,rfl,rfl,hoD⟩ ha ?_
 have lc:Looks (model prog w) hp (classData C) cd:=looks_clsIn X hcd
 obtain ⟨nm,bs,mro,ns,qn,hd,sn,sb,ab,col,del⟩:=cd
 dsimp only at hh
 subst hh
 unfold Builtin.ObjectAttr.storeInOwnDict Builtin.ObjectAttr.ownDictForStores
 repeat (first | with_reducible refine OEX.store_in_old hns hw hz ?_ | with_reducible refine wpAny_loadPart_at hx ?_ | with_reducible refine lc.at ?_ | wp_step)
 exact fun h' tk' hn' hs=>hq h' tk' (fun b o hb ho=>(hs.2 b hb).trans ho) hn'
theorem Qh {u x t0:Addr}{dd:Option Addr}{rest:List Value}{Q:Value→Shared→Prop}(T:XC K C B newId initId bmB) (X:K.In hp) (hu:hp.get? u=some (kxs_mw initId x)) (hx:hp.get? x=some (excObj C t0 dd .none)) (hz:rest.length≤sizeLine)
  (hq:∀h' t1,(∀b o,b≠x→hp.get? b=some o→h'.get? b=some o)→h'.get? x=some (excObj C t1 dd .none)→Q .none ⟨h',g,d,t,os⟩) :
  wpAny (model prog w) A (call (.ref u) rest) Q E ⟨hp,g,d,t,os⟩:=by
 obtain ⟨nm,q,N,bs,bm,sn,sub,ab,col,dc,k0,k1,k2,k3,k5,hC,ht⟩:=T.cls
 refine wpAny_call (codeAny_of_tree ?_)
 show wpAny (model prog w) A.in1 (callAny (.ref u) ⟨rest,[]⟩) _ _ _
 simp only [callAny]
 refine wpAny_bind (wpAny_load hu ?_)
 have y1:(Value.type "method-wrapper" == Value.type "method" || Value.type "method-wrapper" == Value.type "builtin_function_or_method" || Value.type "method-wrapper" == Value.type "method-wrapper")=true:=by decide
 simp only [kxs_mw,y1,if_true]
 refine KFB.if_so (by decide) ?_
 refine wpAny_bind (check_bound_init T.fb.toExcCallFacts (X _ _ hC) hx rfl (wpAny_bind (wpAny_pure (wpAny_pure ?_))))
 refine ⟨plainId_quiet T.fb.init.plain _,codeAny_builtin T.fb.initEntry ?_⟩
 exact exc_init_tree (cls:= .ref C) (t0:=t0) (dv:=dd) (c2:= .none) (c3:= .none) (b4:= .bool false) hx hz fun h' k e' _=>hq h' _ k e'
theorem Qm {x t0:Addr}{body:List Stmt}{env:Env}{p0 p1 p2 p3 pos:Pos}{msg:Str}{j:Nat}{f cc:Addr}{of oc:Obj}{fd:FuncData}{ar:Arg}{vs:Array Value}{file:Str}{tf:Tok}{m:Str→Option Value}{cca:Addr}{Q:Value→Shared→Prop}{s:Shared}{pl:Sem Bool}
  (T:XC K C B newId initId bmB) (X:K.In s.heap) (hks:env.kindOf "super" = some .globalImplicit) (hkc:env.kindOf "__class__" = some .free) (hkk:env.scope.kind = .function) (hfu:env.func=some f) (hf:s.heap.get? f=some of) (hfd:of.data = .func fd)
  (hp_:(fd.params.posonlyargs++fd.params.args).head?=some ar) (hco:env.code = .ref cc) (hcc:s.heap.get? cc=some oc) (hoc:oc.data = .fields vs) (hvs:vs[2]?=some (.str file tf))
  (hfile:((prog.main.file:Str)==file)=true) (htop:(prog.main.scope.names.lookup ("super" : Str)).isSome=false)
  (hsup:∀{Q:Value→Shared→Prop},Q (.type "super") s→wpAny (model prog w) A (loadGlobal env "super") Q E s)
  (hcell:env.cells.lookup ("__class__" : Str)=some cca) (hca:s.heap.IsCell cca (some (.ref C))) (hns:s.heap.Ns env.locals m) (hself:m ar.arg=some (.ref x)) (hks2:env.kindOf ar.arg=some .local)
  (hx:s.heap.get? x=some (excObj C t0 none .none))
  (hq:∀h' t1 tk,(∀b o,b≠x→s.heap.get? b=some o→h'.get? b=some o)→h'.get? x=some (excObj C t1 none .none)→Q .none { s with heap:=h',toks:=tk})
  (he:eval (.Call (.Attribute (.Call (.Name "super" p0) [] [] p1) "__init__" p2) [.Constant (.str msg) j p3] [] pos) env=(do
   let ov ←attributeBase (.Call (.Name "super" p0) [] [] p1) "__init__" env (eval (.Call (.Name "super" p0) [] [] p1) env)
   standAt p2.atName
   let (f,first) ←holding [ov] (getMethod ov "__init__" pl)
   callWith pos f first (backTo pos (starEach [.Constant (.str msg) j p3] env)) [])) :
  PySem.wpAt (model prog w) A (.func body env) (eval (.Call (.Attribute (.Call (.Name "super" p0) [] [] p1) "__init__" p2) [.Constant (.str msg) j p3] [] pos) env) Q E s:=by
 obtain ⟨nm,q,N,bs,bm,sn,sub,ab,col,dc,k0,k1,k2,k3,k5,hC,ht⟩:=id T.cls
 obtain ⟨cd,hcd,hh,⟨bm',em⟩,pass,hob⟩:=T.cd
 refine ks_wpAt_MethodCall (pl:=pl) ?_ he
 refine ks_wpAt_super_base hks hkc (by decide +kernel) hfu hf hfd hp_ hco hcc hoc hvs hfile htop ?_
 refine ks_loadName_global hkk hks (hsup ⟨rfl,?_⟩)
 refine wpAny_loadName_free hkk hkc hcell hca ?_ (by decide +kernel)
 refine wpAny_loadName_local hkk hks2 hns hself ?_
 refine ks_wpAny_isType_cls (X _ _ hC) rfl ⟨rfl,?_⟩
 obtain ⟨hp,g,d,t,os⟩:=s
 have hxC:x≠C:=fun z=>by
  rw [z,X _ _ hC] at hx
  cases hx
 have lsub:Looks (model prog w) hp (isSubtype (.ref C) (.ref C)) true:=looks_subIn X T.subC
 refine ks_wpAny_call_super (X _ _ hC) rfl hx rfl (fun c z=>by cases z) lsub fun h' e k=> ?_
 have X':K.In h':=X.keeps k
 have hx':=k _ _ hx
 have I':InstAt h' x (excObj C t0 none .none) C none:=⟨hx',rfl,rfl,trivial⟩
 have isB:Looks (model prog w) h' (isInstance (.ref x) (.type B)) true:=I'.type.andThen (looks_subIn X' T.subB)
 have al:=T.sup
 unfold ks_superIn at al
 rw [hcd,Option.bind_some] at al
 refine kxs_getMethod T.kx e (looks_opaque X' T.opq) ((looks_clsIn X' hcd).andThen .now) rfl X' al isB hxC (by decide +kernel) ?_
 have hu:(h'.push (kxs_mw initId x)).get? h'.objs.size=some (kxs_mw initId x):=Heap.get?_push_at rfl rfl
 have up:∀b o,h'.get? b=some o→(h'.push (kxs_mw initId x)).get? b=some o:=fun b o z=>Heap.get?_push_of_some _ z
 refine kxs_callWith (i:=initId) (x:=x) (by rfl) (evalArgs_plain ?_)
 refine Calls.spliced_cons (Calls.Constant_str (k:=j) (pos:=p3) (Calls.spliced_nil ⟨hu,?_⟩))
 refine Qh T (X'.keeps up) hu (up _ _ hx') (by show 1≤sizeLine;decide) fun h2 t1 k2 e2=> ?_
 exact hq h2 t1 _ (fun b o hb z=>k2 b o hb (up b o (k b o z))) e2
end
variable {G:Gd}
section
variable {X:Cx}{pins:List (Addr×Obj)}{σ:L2.St}{H:Hp}{s:Shared}{a C dx:Addr}{f:Str}{y:V}{u:Value}{fs:List (Str×V)}{Q:Unit→Shared→Prop}{E:Value→Shared→Prop}{A:Around}{B newId initId:String}{bmB:List Value}
theorem Yz (T:XC X.K C B newId initId bmB) (I:Inv X pins σ H s) (ea:H a=some (exo a C none)) (hno:findIn X.K (.ref C) f=some none) (ry:RelV y u)
  (h:∀dx s',H dx=none→dx≠a→Inv X pins σ (upd (upd H dx (exd dx [(f,y)])) a (exo a C (some dx))) s'→Q () s'):wpAny (model X.prog X.w) A (setAttr (.ref a) f u) Q E s:=by
 obtain ⟨t1,ho⟩:=exo_at I.hok ea
 obtain ⟨hp,g,d,t,os⟩:=s
 refine set_plain I.kIn (ox:={ cls:= .ref C,dict:=none,data:= .fields #[.ref t1,.none,.none,.none,.bool false,.none]}) (od:=none) ⟨ho,rfl,rfl,trivial⟩ T.sa ?_
 refine Wk T I.kIn ho hno fun h' tk' dx kept new away atx ns1=> ?_
 have free:H dx=none:=I.hok.fresh new
 have ned:∀{b:Addr}{o:Obj},hp.get? b=some o→b≠dx:=fun {b o} z=>Nat.ne_of_lt (Nat.lt_of_lt_of_le (Heap.lt_size z) new)
 have nea:∀{b:Addr},H b=none→b≠a:=fun {b} n z=>by
  rw [z,ea] at n
  cases n
 have look:∀{b:Addr}{o:HO},H b=some o→(∀d,o≠exo a C d)→upd (upd H dx (exd dx [(f,y)])) a (exo a C (some dx)) b=some o:=fun {b o} z n=>by
  have n1:b≠a:=fun e=>by
   rw [e,ea] at z
   exact n none (Option.some.inj z).symm
  rw [upd_ne n1,upd_ne (ne_of_none z free)]
  exact z
 have un:Un X.fs [] H (upd (upd H dx (exd dx [(f,y)])) a (exo a C (some dx))) hp h':={
  keep:=fun b o z n _ _=>kept b o (nea n) z
  slot:=fun b o z n _ _=>⟨o.slots,kept b o (nea n) z⟩
  free:=fun b o z n _=>by
   rw [upd_ne (nea n),upd_ne (ned z)]
   exact n
  there:=fun b o z _=>by
   by_cases hb:b=a
   ·rw [hb]
    exact ⟨_,atx⟩
   ·exact ⟨o,kept b o hb z⟩
  tups:=fun b xs z=>look z fun d e=>exo_tup e.symm
  frzs:=fun b o v z=>look z fun d e=>exo_frz e.symm
  tbls:=fun b ps z=>⟨#[],by
   rw [look z fun d e=>exo_tbl e.symm]
   simp⟩}
 refine h dx _ free away (I.un (t':=tk') un fun b o z=> ?_)
 by_cases hb:b=a
 ·rw [hb,upd_same] at z
  cases z
  rw [hb]
  exact exo_ok atx
 ·rw [upd_ne hb] at z
  by_cases hd:b=dx
  ·rw [hd,upd_same] at z
   cases z
   rw [hd]
   exact exd_ok ns1 (relO_put (fs:=[]) ry fun _=>True.intro)
  ·rw [upd_ne hd] at z
   refine (I.hok b o z).stay (fun c v hc zz=>kept c v ?_ zz) (fun c hc=>look hc fun d e=>exo_own e.symm) fun c xs hc=>look hc fun d e=>exo_tup e.symm
   rcases hc with hc | hc
   ·rw [hc]
    exact hb
   ·exact at_ne ea hc exo_own
theorem YB (T:XC X.K C B newId initId bmB) (I:Inv X pins σ H s) (ea:H a=some (exo a C (some dx))) (ed:H dx=some (exd dx fs)) (hl:fs.length≤900) (hno:findIn X.K (.ref C) f=some none) (ry:RelV y u)
  (h:∀s',Inv X pins σ (upd H dx (exd dx ((f,y)::fs))) s'→Q () s'):wpAny (model X.prog X.w) A (setAttr (.ref a) f u) Q E s:=by
 obtain ⟨t1,ho⟩:=exo_at I.hok ea
 obtain ⟨mA,ns1,rel⟩:=exd_at I.hok ed
 have hw:=within_of rel
 obtain ⟨hp,g,d,t,os⟩:=s
 obtain ⟨oD,_,_,hoD,_,_⟩:=ns1.count hw
 refine set_plain I.kIn (ox:={ cls:= .ref C,dict:=some dx,data:= .fields #[.ref t1,.none,.none,.none,.bool false,.none]}) (od:=some oD) ⟨ho,rfl,rfl,hoD⟩ T.sa ?_
 refine U9 T I.kIn ho ns1 hw (by rw [List.length_map];omega) hno fun h' tk' kept ns2=> ?_
 have there:∃o,h'.get? dx=some o:=by
  obtain ⟨o,_,_,z,_⟩:=ns2
  exact ⟨o,z⟩
 exact h _ (I.write (t':=tk') (x:=dx) (e:=dx) (o:=exd dx ((f,y)::fs)) (by rw [ed];exact True.intro) (.inl rfl) kept there (exd_ok ns2 (relO_put ry rel)))
def tXs (C:Addr) (f:Str) (to te:TE):TS:=fun D σ H=>te σ H fun y H1=>to σ H1 fun x H2=>∃a:Addr,x = .ref a ∧
 ((H2 a=some (exo a C none)∧∀dx,H2 dx=none→dx≠a→D.nx σ (upd (upd H2 dx (exd dx [(f,y)])) a (exo a C (some dx)))) ∨
  ∃(dx:Addr) (fs:List (Str×V)),H2 a=some (exo a C (some dx))∧H2 dx=some (exd dx fs)∧fs.length≤900∧D.nx σ (upd H2 dx (exd dx ((f,y)::fs))))
theorem QW {o e:Expr}{to te:TE}{p' pos:Pos}(T:XC X.K C B newId initId bmB) (hno:findIn X.K (.ref C) f=some none) (ho:PE X o to) (he:PE X e te) (hs:swapsWith e (some (.Attribute o f p')) pos.line X.env=pure false:=by rfl):PS X (.Assign [.Attribute o f p'] e pos) (tXs C f to te):=by
 refine ⟨fun pins s σ H D I h=> ?_⟩
 refine plainObj_wpAny_Assign_Attribute (thn (he.run pins s σ H _ I h) fun v s1 ⟨y,H1,I1,r1,q1⟩=>thn (ho.run pins s1 σ H1 _ I1 q1) fun u s2 ⟨x,H2,I2,r2,a,ex,q⟩=> ?_) hs
 subst ex
 obtain rfl:u=Value.ref a:=r2
 rcases q with ⟨ea,q⟩ | ⟨dx,fs,ea,ed,hl,q⟩
 ·exact Yz T I2 ea hno r1 fun dx s' n ne J=>⟨σ,_,J,q dx n ne⟩
 ·exact YB T I2 ea ed hl hno r1 fun s' J=>⟨σ,_,J,q⟩
end
structure XF (K:Frag) (P:Program) (C f:Addr) (qual:Str) (params:Arguments) (body:List Stmt) (scope:Scope) (fd:FuncData):Prop where
 ex:∃(oc:Value) (od:Option Addr) (kV doc pm:Value) (an:Option Addr) (cda:Addr) (ct:Value) (osl:Array (Option Value)) (cc:Addr) (oca:Obj) (vs:Array Value) (file:Str) (tf:Tok) (oce:Obj),
  fd=ksFn "__init__" qual params body scope .none kV doc pm an (.ref cda) ct cc∧K.lookup f=some ⟨oc,od,.func fd,osl⟩∧codeIn K (.ref cda) qual=true∧K.lookup cda=some oca∧oca.data = .fields vs∧vs[2]?=some (.str file tf)∧((P.main.file:Str)==file)=true ∧
   K.lookup cc=some oce∧oce.data = .cell (some (.ref C))
 ty:typeIn K (.ref f)=some (.type "function")
structure XS (ps:List Str) (sc:Scope):Prop where
 kind:sc.kind = .function
 co:sc.isCoroutine=false
 gen:sc.isGenerator=false
 nd:ps.Nodup
 par:∀x∈ps,sc.names.lookup x=some .local
 nocell:∀y∈sc.names,y.2 ≠ .cell
 free:∀y∈sc.names,y.2 = .free→y.1 = "__class__"
 sup:sc.names.lookup ("super" : Str)=some NameKind.globalImplicit
 cls:sc.names.lookup ("__class__" : Str)=some NameKind.free
def cxI (CX:CXT) (P:Program) (w:World) (K:Frag) (mg:Str→Option Value) (base:Heap) (N:List Str) (env:Env) (A:Around) (outer:List Env) (s:Shared) (H:Hp) (E:XK):Cx where
 prog:=P
 w:=w
 K:=K
 mg:=mg
 base:=base
 A:=A.deeper env
 N:=N
 s_0:=s
 H_0:=H
 env:=env
 outer:=outer
 stack:=env::outer
 ex:=[]
 fn:=fun _=>false
 calm:=true
 pn:=[]
 xe:=fun e s'=>wpAny (model P w) (A.deeper env) (leaving env e) (fun _ s''=>CX outer H s E e s'') (fun e' s''=>CX outer H s E e' s'') s'
theorem J9:∀{ps:List Str}{us:List Value},ps.Nodup→∀{i:Nat}{x:Str}{u:Value},ps[i]?=some x→us[i]?=some u→(x,u)∈ps.zip us
 | [],_,_,i,x,u,h,_=>by simp at h
 | _::_,[],_,i,x,u,_,h=>by simp at h
 | p::ps,w::us,nd,0,x,u,h1,h2=>by
  simp at h1 h2
  subst h1;subst h2
  simp
 | p::ps,w::us,nd,i+1,x,u,h1,h2=>by
  simp at h1 h2
  exact List.mem_cons_of_mem _ (J9 (List.nodup_cons.mp nd).2 h1 h2)
theorem Oz {l:List (Str×Value)}{x:Str}{u:Value}(nd:(l.map (·.1)).Nodup) (h:(x,u)∈l):l.lookup x=some u:=by
 induction l with
 | nil=>cases h
 | cons p l ih=>
  obtain ⟨y,v⟩:=p
  rw [List.map_cons,List.nodup_cons] at nd
  rcases List.mem_cons.mp h with e | h
  ·cases e
   simp
  ·have ne:(x==y)=false:=by
    have:x≠y:=fun z=>nd.1 (by rw [←z];exact List.mem_map.mpr ⟨(x,u),h,rfl⟩)
    simpa using this
   simp only [List.lookup,ne]
   exact ih nd.2 h
theorem WW:∀{ps:List Str}{us:List Value},ps.Nodup→((ps.zip us).map (·.1)).Nodup
 | [],_,_=>by simp
 | _::_,[],_=>by simp
 | p::ps,w::us,nd=>by
  rw [List.zip_cons_cons,List.map_cons,List.nodup_cons]
  refine ⟨fun z=> ?_,WW (List.nodup_cons.mp nd).2⟩
  obtain ⟨⟨a,b⟩,h1,h2⟩:=List.mem_map.mp z
  cases h2
  exact (List.nodup_cons.mp nd).1 (List.of_mem_zip h1).1
theorem zip_look {ps:List Str}{us:List Value}(nd:ps.Nodup) {i:Nat}{x:Str}{u:Value}(h1:ps[i]?=some x) (h2:us[i]?=some u):(ps.zip us).reverse.lookup x=some u:=
 Oz (by rw [List.map_reverse];exact List.pairwise_reverse.mpr ((WW nd).imp fun h z=>h z.symm)) (List.mem_reverse.mpr (J9 nd h1 h2))
section
variable {P:Program}{w:World}{K:Frag}{mg:Str→Option Value}{base:Heap}{C f:Addr}{qual:Str}{params:Arguments}{rest:List Stmt}{scope:Scope}{fd:FuncData}{ps:List Str}{B newId initId:String}{bmB:List Value}
abbrev eI (qual:Str) (scope:Scope) (L f:Addr) (cdv:Value) (cc:Addr):Env:=ksEnv qual scope L f cdv cc
theorem R9 {CX:CXT}{k:Nat}{sp:Sp}{p0 p1 p2 p3 pos pE:Pos}{msg:Str}{j:Nat}{ar:Arg}(T:XC K C B newId initId bmB) (S:XS ps scope)
  (F:XF K P C f qual params (.Expr (.Call (.Attribute (.Call (.Name "super" p0) [] [] p1) "__init__" p2) [.Constant (.str msg) j p3] [] pos) pE::rest) scope fd)
  (hp_:(params.posonlyargs++params.args).head?=some ar) (har:ps[0]?=some ar.arg) (htop:(P.main.scope.names.lookup ("super" : Str)).isSome=false) (hmg:mg "super" = none)
  {pl:Addr→Value→Addr→Sem Bool}(hi:∀L cdv cc,interactive (eI qual scope L f cdv cc)=false)
  (he:∀L cdv cc,eval (.Call (.Attribute (.Call (.Name "super" p0) [] [] p1) "__init__" p2) [.Constant (.str msg) j p3] [] pos) (eI qual scope L f cdv cc)=(do
   let ov ←attributeBase (.Call (.Name "super" p0) [] [] p1) "__init__" (eI qual scope L f cdv cc) (eval (.Call (.Name "super" p0) [] [] p1) (eI qual scope L f cdv cc))
   standAt p2.atName
   let (fv,first) ←holding [ov] (getMethod ov "__init__" (pl L cdv cc))
   callWith pos fv first (backTo pos (starEach [.Constant (.str msg) j p3] (eI qual scope L f cdv cc))) []))
  (len:∀vs H Q E,sp vs H Q E→vs.length=ps.length)
  (hbody:∀(cdv:Value) (cc:Addr) (A:Around) (outer:List Env) (s:Shared) (H:Hp) (vs:List V) (Q:VK) (E:XK),sp vs H Q E →
   ∃a ys,vs = .ref a::ys∧H a=some (exo a C none)∧∃t,PSs (cxI CX P w K mg base ps (eI qual scope s.heap.objs.size f cdv cc) A outer s H E) rest t∧t { nx:=fun _ H'=>Q .non H',rt:=Q} (start ps vs) H) :
  FnOk P w K mg base CX (k+1) f fd ps sp:=by
 refine ⟨len,fun A outer s H args us vs Q E hr e0 hb r hsp=> ?_⟩
 obtain ⟨oc,od,kV,doc,pm,an,cda,ct,osl,cc,oca,vsc,file,tf,oce,rfl,lk,hcd,lca,dca,hvs,hfile,lcc,dcc⟩:=F.ex
 have hl:=len _ _ _ _ hsp
 have KX:K.In s.heap:=e0.mod.kin.keeps fun b o e=>(e0.bs b o e).1
 have lim:s.heap.NoLimit:=e0.mod.nolimit.keeps fun b o e=>(e0.bs b o e).1
 obtain ⟨a,ys,rfl,ea,t,pt,ht⟩:=hbody (.ref cda) cc A outer s H vs Q E hsp
 refine ks_codeAny_call_defAt (binds:=ps.zip us) (by have:=hr.dp;omega) (KX _ _ lk) rfl lim (codeRec_of KX hcd) rfl hb S.nocell (fun y hy=>S.par _ (List.of_mem_zip hy).1) (fun h₀ hns hk₀=> ?_) S.co S.gen S.kind
 let env:Env:=eI qual scope s.heap.objs.size f (.ref cda) cc
 have hcc0:base.get? cc=some oce:=e0.mod.kin _ _ lcc
 have I:Inv (cxI CX P w K mg base ps env A outer s H E) [] (start ps (.ref a::ys)) H { s with heap:=h₀,toks:=s.toks+(ps.zip us).length}:=by
  refine ⟨⟨e0.mod,S.kind,rfl,rfl,Nat.le_refl _,fun y z c h1 h2=> ?_,fun y hy=> ?_,fun y c z _=>absurd z (by show ¬(false=true);decide),fun _=>hr.hd,Around.frames_deeper e0.frames,.inr ⟨rfl,rfl⟩,fun b z=>absurd z (by show b∉[];simp),e0.bs,e0.bsz,fun b _ _=>by show b∉[];simp,fun b z=>absurd z (by show b∉[];simp),e0.funs,e0.frf⟩,
   rfl,e0.bare,Un.kept hk₀,⟨_,hns,fun i y v h1 h2 h3=> ?_⟩,fun y c h=> ?_,e0.hok.fresh (Nat.le_refl _),fun y c h=> ?_,fun p hp=>absurd (show p∈([]:List (Addr×Obj)) from hp) (by simp),e0.hok.kept hk₀,?_⟩
  ·have h1:([("__class__",cc)]:List (Str×Addr)).lookup y=some c:=h1
   have h2:([("__class__",cc)]:List (Str×Addr)).lookup z=some c:=h2
   have e1:=List.mem_singleton.mp (PySem.mem_of_lookup h1)
   have e2:=List.mem_singleton.mp (PySem.mem_of_lookup h2)
   cases e1
   cases e2
   rfl
  ·have hy:scope.names.lookup y=some .cell∨scope.names.lookup y=some .free:=hy
   rcases hy with hy | hy
   ·exact absurd rfl (S.nocell _ (PySem.mem_of_lookup hy))
   ·have e:=S.free _ (PySem.mem_of_lookup hy) rfl
    have e:y = "__class__" :=e
    subst e
    exact ⟨cc,rfl⟩
  ·have hi:i<(V.ref a::ys).length:=by
    unfold L2.start at h2
    by_cases hi:i<(V.ref a::ys).length
    ·exact hi
    ·rw [List.getElem?_append_right (by simpa using hi)] at h2
     rw [List.getElem?_replicate] at h2
     split at h2<;>cases h2
   have ha:(V.ref a::ys)[i]?=some v:=by
    unfold L2.start at h2
    rw [List.getElem?_append_left (by simpa using hi),List.getElem?_map] at h2
    cases e:(V.ref a::ys)[i]? with
    | none=>rw [e] at h2;cases h2
    | some a=>rw [e] at h2;cases h2;rfl
   obtain ⟨u,hu,rv⟩:=r.get ha
   exact ⟨u,rv,.inl ⟨S.par _ (List.mem_of_getElem? h1),zip_look S.nd h1 hu⟩⟩
  ·have h:([("__class__",cc)]:List (Str×Addr)).lookup y=some c:=h
   have e1:=List.mem_singleton.mp (PySem.mem_of_lookup h)
   cases e1
   exact ⟨_,oce,hk₀ _ _ (e0.bs _ _ hcc0).1,dcc⟩
  ·have h:([("__class__",cc)]:List (Str×Addr)).lookup y=some c:=h
   have e1:=List.mem_singleton.mp (PySem.mem_of_lookup h)
   cases e1
   exact (e0.bs _ _ hcc0).2
  ·show (L2.start ps (V.ref a::ys)).length=ps.length
   unfold L2.start
   simp [hl]
   omega
 obtain ⟨t0,hx⟩:=exo_at I.hok ea
 obtain ⟨u0,hu0,rv0⟩:=r.get (i:=0) (x:=V.ref a) rfl
 obtain rfl:u0=Value.ref a:=rv0
 refine ks_wpAt_execs_cons (ks_wpAt_Expr_any ?_ (hi _ _ _))
 refine Qm (cc:=cda) (f:=f) (cca:=cc) (m:=fun x=>(ps.zip us).reverse.lookup x) (ar:=ar) (x:=a) T I.kIn S.sup S.cls S.kind rfl (I.kIn _ _ lk) rfl hp_ rfl (I.kIn _ _ lca) dca hvs hfile htop (fun {Q} q=> ?_) rfl ⟨oce,hk₀ _ _ (e0.bs _ _ hcc0).1,dcc⟩ hns (zip_look S.nd har hu0) (S.par _ (List.mem_of_getElem? har)) hx (fun h' t1 tk kept hx'=> ?_) (he _ _ _)
 ·obtain ⟨mb,b1,b2⟩:=e0.mod.blt
  exact Calls.loadGlobal_builtin (e0.mod.glob.keeps I.bk) hmg (b1.keeps I.bk) ((b2 _ (by decide)).trans PyProof.Rows.Boot.«super») q
 ·have J:=I.write (t':=tk) (x:=a) (e:=a) (o:=exo a C none) (by rw [ea];exact True.intro) (.inl rfl) kept ⟨_,hx'⟩ (exo_ok hx')
  have eu:upd H a (exo a C none)=H:=by
   funext b
   by_cases hb:b=a
   ·rw [hb,upd_same,ea]
   ·rw [upd_ne hb]
  rw [eu] at J
  refine wpAt_of_wpAny (wpAny_mono (pt.run [] _ _ H _ J ht) (fun fl s' hs=> ?_) fun e s' hs=>hs)
  have fin:∀{σ':L2.St}{H':Hp}{v:V}{u:Value},Inv (cxI CX P w K mg base ps env A outer s H E) [] σ' H' s'→RelV v u→Q v H'→CE outer P w H s Q u s':=
   fun {σ' H' v u} J rv q=>⟨v,H',J.os,J.bare,J.base,J.hok,rv,q⟩
  cases fl with
  | ret u=>
   obtain ⟨v,σ',H',J,rv,q⟩:=hs
   exact fin J rv q
  | next=>
   obtain ⟨σ',H',J,q⟩:=hs
   exact fin (v:=V.non) (u:=Value.none) J rfl q
  | brk=>
   obtain ⟨_,_,_,q⟩:=hs
   exact False.elim q
  | cont=>
   obtain ⟨_,_,_,q⟩:=hs
   exact False.elim q
end
variable {G:Gd}
section
variable {M:Model}{prog:Program}{w:World}{A:Around}{E:Value→Shared→Prop}{R:Result→Shared→Prop}{h:Heap}{g:Array GenState}{d:Drawn}{t:Nat}{os:OsState}{kw:List (Str×Value)}
variable {nm q:Str}{C N:Addr}{bs bm bmB:List Value}{hdct:Bool}{sn:List Str}{sub:List Value}{ab:Bool}{col:Option Bool}{dd:Option Addr}{k0 k1 k2 k3 k5:Option Value}{B newId initId:String}
theorem aa6 (F:ExcBaseFacts B newId initId bmB) (hT:∀X:String,bm.contains (.type X)=bmB.contains (.type X)) {us:List Value}{Q:Unit→Shared→Prop}
  (hC:h.get? C=some (excClassObj nm q C N bs bm hdct sn sub ab col dd k0 k1 k2 k3 k5 newId)) (hq:Q () ⟨h,g,d,t,os⟩):wpAny M A (checkBuiltinCall newId ⟨.ref C::us,kw⟩) Q E ⟨h,g,d,t,os⟩:=by
 have c1:(Value.ref C::bm).contains (.type B)=true:=by rw [List.contains_cons,hT,F.hasB,Bool.or_true]
 have c2:=F.noStar
 simp only [checkBuiltinCall,F.newKind,F.newSplit,F.newRow]
 repeat (first | refine wpAny_loadPart_at hC ?_ | (refine wpAny_isSubtype_exc hC ?_;rw [c1]) | refine wpAny_staticBase_exc hC ?_ | refine wpAny_madeBy_exc hC ?_ | simp only [bne_self_eq_false,Bool.false_eq_true,if_false] | wp_step)
 exact hq
theorem ad7 (F:ExcBaseFacts B newId initId bmB) (hT:∀X:String,bm.contains (.type X)=bmB.contains (.type X)) {us:List Value}
  (hC:h.get? C=some (excClassObj nm q C N bs bm hdct sn sub ab col dd k0 k1 k2 k3 k5 newId)) (hus:us.length≤sizeLine)
  (hq:R (.ok (.ret (.ref (h.objs.size+1)))) ⟨(h.push (kdv_tup us)).push (HandSPX.excO C h.objs.size),g,d,t,os⟩) :
  codeAny (model prog w) A (.builtin newId ⟨.ref C::us,kw⟩) R ⟨h,g,d,t,os⟩:=by
 have c0:=F.ends
 have c1:(Value.ref C::bm).contains (.type B)=true:=by rw [List.contains_cons,hT,F.hasB,Bool.or_true]
 have c2:(Value.ref C::bm).contains (.type "AttributeError")=false:=by rw [List.contains_cons,hT,F.noAttr]<;>rfl
 have c3:(Value.ref C::bm).contains (.type "NameError")=false:=by rw [List.contains_cons,hT,F.noName]<;>rfl
 refine codeAny_builtinAt F.entry ?_
 unfold Builtin.«BaseException.__new__»
 refine PySem.wpAt_bind ?_
 show PySem.wpAt _ _ _ (stack >>= _) _ _ _
 refine PySem.wpAt_bind (PySem.wpAt_stack fun p below=>PySem.wpAt_of_wpAny ?_)
 wp_walk
 refine PySem.wpAt_of_wpAny ?_
 rw [F.owner]
 repeat (first | with_reducible refine wpAny_madeHere_exc F.canon hC ?_ | with_reducible refine wpAny_loadPart_at hC ?_ | (with_reducible refine wpAny_isSubtype_exc hC ?_;first | rw [c1] | rw [c2] | rw [c3]) | wp_step)
 show R _ _
 rw [Heap.size_push]
 exact hq
theorem tcK {us:List Value}{Q:Unit→Shared→Prop}(hC:h.get? C=some (excClassObj nm q C N bs bm hdct sn sub ab col dd k0 k1 k2 k3 k5 newId)) (hq:Q () ⟨h,g,d,t,os⟩) :
  wpAny M A (checkBuiltinCall "type.__call__" ⟨.ref C::us,kw⟩) Q E ⟨h,g,d,t,os⟩:=by
 have c3:=tc_sub
 have cT:(⟨h,g,d,t,os⟩:Shared).TypeIs (.ref C) "type" :=⟨_,hC,rfl⟩
 simp only [checkBuiltinCall,tc_kind,tc_split]
 repeat (any_goals (first | assumption | with_reducible refine wpAny_loadPart_at hC ?_ | with_reducible refine wpAny_onRaise ?_ | with_reducible refine wpAny_map ?_ | wp_step))
theorem TY (F:ExcBaseFacts B newId initId bmB) (hT:∀X:String,bm.contains (.type X)=bmB.contains (.type X)) {us:List Value}{fI:Addr}{Q:Fin→Shared→Prop}
  (hC:h.get? C=some (excClassObj nm q C N bs bm hdct sn sub ab col dd k0 k1 k2 k3 k5 newId))
  (hi:Looks (model prog w) h (typeLookup (.ref C) "__init__") (some (.ref fI))) (hb:∀self,Looks (model prog w) h (bindSpecial (.ref fI) self) (.ref fI,[self])) (hus:us.length≤sizeLine)
  (hq:codeAny (model prog w) A (.call (.ref fI) ⟨.ref (h.objs.size+1)::us,kw⟩)
   (fun r s'=>match r with | .ok (.ret v)=>v = .none∧Q (.done (.ret (.ref (h.objs.size+1)))) s' | .ok _=>False | .error e=>E e s')
   ⟨(h.push (kdv_tup us)).push (HandSPX.excO C h.objs.size),g,d,t,os⟩) :
  wpAny (model prog w) A (Builtin.«type.__call__» ⟨.ref C::us,kw⟩) Q E ⟨h,g,d,t,os⟩:=by
 repeat (first | with_reducible refine wpAny_loadPart_at hC ?_ | with_reducible refine wpAny_madeBy_exc hC ?_ | wp_step)
 refine codeAny_call_builtin_code (Code.quiet_builtin _ F.quiet) (aa6 F hT hC ?_)
 refine ad7 F hT hC hus ?_
 show wpAny _ _ _ _ _ _
 have up:∀b o,h.get? b=some o→((h.push (kdv_tup us)).push (HandSPX.excO C h.objs.size)).get? b=some o:=fun b o e=>Heap.get?_push_of_some _ (Heap.get?_push_of_some _ e)
 have c1:=up _ _ hC
 have c2:((h.push (kdv_tup us)).push (HandSPX.excO C h.objs.size)).get? (h.objs.size+1)=some (HandSPX.excO C h.objs.size):=by heap_get
 have c3:(Value.ref C::bm).contains (.ref C)=true:=by simp
 have i1:=hi.keeps up
 have b1:=(hb (.ref (h.objs.size+1))).keeps up
 unfold isInstance
 repeat (first | with_reducible refine wpAny_loadPart_at c2 ?_ | (with_reducible refine wpAny_isSubtype_exc c1 ?_;rw [c3]) | wp_step)
 show wpAny _ _ (typeLookup (.ref C) _) _ _ _
 refine i1.at (wpAny_holding (wpAny_bind (b1.at (wpAny_bind (wpAny_call (codeAny_mono hq fun r s' z=> ?_))))))
 rcases r with e | (v | _ | _ | _)<;>first | exact z | exact z.elim | skip
 obtain ⟨rfl,z⟩:=z
 first | exact wpAny_pure (wpAny_pure z) | (wp_walk;exact z)
theorem acU (F:ExcBaseFacts B newId initId bmB) (hT:∀X:String,bm.contains (.type X)=bmB.contains (.type X)) {us:List Value}{fI:Addr}
  (hC:h.get? C=some (excClassObj nm q C N bs bm hdct sn sub ab col dd k0 k1 k2 k3 k5 newId))
  (hi:Looks (model prog w) h (typeLookup (.ref C) "__init__") (some (.ref fI))) (hb:∀self,Looks (model prog w) h (bindSpecial (.ref fI) self) (.ref fI,[self])) (hus:us.length≤sizeLine)
  (hq:codeAny (model prog w) (A.under (.builtin "type.__call__" ⟨.ref C::us,kw⟩)) (.call (.ref fI) ⟨.ref (h.objs.size+1)::us,kw⟩) (InitBack (h.objs.size+1) R)
   ⟨(h.push (kdv_tup us)).push (HandSPX.excO C h.objs.size),g,d,t,os⟩) :
  codeAny (model prog w) A (.call (.ref C) ⟨us,kw⟩) R ⟨h,g,d,t,os⟩:=by
 have f1:=tc_lookup
 have f2:=tc_bind (.ref C)
 have cT:(⟨h,g,d,t,os⟩:Shared).TypeIs (.ref C) "type" :=⟨_,hC,rfl⟩
 refine codeAny_of_tree ?_
 show wpAny _ _ (callAny (.ref C) _) _ _ _
 repeat (any_goals (first | assumption | with_reducible refine wpAny_loadPart_at hC ?_ | wp_step))
 refine ⟨rfl,codeAny_call_builtin_at (Code.quiet_builtin _ (by decide +kernel)) entry_typeCall (tcK hC (TY F hT hC hi hb hus (codeAny_mono hq fun r s' z=> ?_)))⟩
 rcases r with e | (v | _ | _ | _)<;>exact z
end
variable {G:Gd}
theorem ab1 {P:Program}{w:World}{H:Hp}{h:Heap}{a C:Addr}{od:Option Addr}{fv:Array Value}{sl:Array (Option Value)}(he:h.get? a=some ({ cls:= .ref C,dict:=od,data:= .fields fv,slots:=sl}:Obj)):ObjOk P w H h a (xlo a C od):=
 ⟨⟨fv,sl,he⟩,⟨_,he⟩,fun h1 h2 z k=>by
  obtain ⟨t,u,q⟩:=z
  exact ⟨t,u,k _ q⟩⟩
theorem Wf {P:Program}{w:World}{H:Hp}{h:Heap}{a C:Addr}{od:Option Addr}(hok:HOk P w H h) (e:H a=some (xlo a C od)):∃fv sl,h.get? a=some ({ cls:= .ref C,dict:=od,data:= .fields fv,slots:=sl}:Obj):=by
 have x:ObjOk P w H h a (.ext fun h=>∃fv sl,h.get? a=some ({ cls:= .ref C,dict:=od,data:= .fields fv,slots:=sl}:Obj)):=hok a _ e
 exact x.1
def spI (C:Addr) (ns:List Str):Sp:=fun vs H Q _=>∃(a:Addr) (ys:List V),vs = .ref a::ys∧ys.length=ns.length∧H a=some (exo a C none)∧(ns=[]→Q .non H) ∧
 (ns≠[]→∀dx,H dx=none→dx≠a→Q .non (upd (upd H dx (exd dx (ns.zip ys).reverse)) a (exo a C (some dx))))
theorem spI_len {C:Addr}{ns:List Str}{vs:List V}{H:Hp}{Q:VK}{E:XK}(h:spI C ns vs H Q E):vs.length=ns.length+1:=by
 obtain ⟨a,ys,rfl,hl,_⟩:=h
 simp [hl]
theorem acK {H:Hp}{a b:Addr}{o o' u:HO}(h:b≠a):upd (upd (upd H b o) a u) b o'=upd (upd H b o') a u:=by
 funext c
 by_cases h1:c=b
 ·subst h1
  rw [upd_same,upd_ne h,upd_same]
 ·rw [upd_ne h1]
  by_cases h2:c=a
  ·subst h2
   rw [upd_same,upd_same]
  ·rw [upd_ne h2,upd_ne h2,upd_ne h1,upd_ne h1]
section
variable {X:Cx}{Wx:WX}{pins:List (Addr×Obj)}{σ:L2.St}{H:Hp}{s:Shared}{C fI:Addr}{ns ps:List Str}{fd:FuncData}{B newId initId:String}{bmB:List Value}{k:Nat}
structure XI (X:Cx) (C:Addr) (ns ps:List Str) (k:Nat) (fI:Addr) (fd:FuncData):Prop where
 cl:∃B newId initId bmB,XC X.K C B newId initId bmB
 it:findIn X.K (.ref C) "__init__" = some (some (.ref fI))
 ty:typeIn X.K (.ref fI)=some (.type "function")
 ok:FnOk X.prog X.w X.K X.mg X.base (L2.CX X.prog X.w) k fI fd ps (spI C ns)
theorem ZL {Qe:Value→Shared→Prop}{us bs:List Value}{kw:List (Str×Value)}{ys:List V}(T:XI X C ns ps k fI fd) (hr:Room (k+1) X.A) (tk:Takes X Wx) (I:Inv X pins σ H s) (hus:us.length≤sizeLine)
  (hb:∀(s:Shared) (a:Addr),X.K.In s.heap→BindsTo s fd ⟨.ref a::us,kw⟩ (ps.zip (.ref a::bs))) (rb:Vals ys bs) (hl:ys.length=ns.length)
  (q:∀(x:Addr) (s':Shared),H x=none→s.heap.objs.size≤x→(ns=[]→Inv X pins σ (upd H x (exo x C none)) s'→Qe (.ref x) s') ∧
   (ns≠[]→∀dx,H dx=none→dx≠x→Inv X pins σ (upd (upd H dx (.xd (ns.zip ys).reverse)) x (exo x C (some dx))) s'→Qe (.ref x) s')) :
  wpAny (model X.prog X.w) X.A (call (.ref C) us kw) Qe X.xe s:=by
 obtain ⟨B,newId,initId,bmB,TC⟩:=T.cl
 obtain ⟨nm,qn,N,bs',bm,sn,sub,ab,col,dd,k0,k1,k2,k3,k5,hC,ht⟩:=TC.cls
 obtain ⟨hp,g,dr,t0,os⟩:=s
 have hsz:hp.objs.size≤hp.objs.size+1:=Nat.le_succ _
 have hn:H (hp.objs.size+1)=none:=I.hok.fresh hsz
 have up:∀b o,hp.get? b=some o→((hp.push (kdv_tup us)).push (HandSPX.excO C hp.objs.size)).get? b=some o:=fun b o e=>Heap.get?_push_of_some _ (Heap.get?_push_of_some _ e)
 have hget:((hp.push (kdv_tup us)).push (HandSPX.excO C hp.objs.size)).get? (hp.objs.size+1)=some (HandSPX.excO C hp.objs.size):=by heap_get
 generalize hx:hp.objs.size+1=x at hsz hn hget
 have I2:Inv X pins σ (upd H x (exo x C none)) ⟨(hp.push (kdv_tup us)).push (HandSPX.excO C hp.objs.size),g,dr,t0,os⟩:=
  I.laid (t':=t0) (a:=x) (o:=exo x C none) (h':=(hp.push (kdv_tup us)).push (HandSPX.excO C hp.objs.size)) up hsz (exo_ok hget)
 have r2:Vals (V.ref x::ys) (Value.ref x::bs):= .cons rfl rb
 have sp:spI C ns (.ref x::ys) (upd H x (exo x C none)) (fun v H2=>v = .non∧((ns=[]∧H2=upd H x (exo x C none))∨(ns≠[]∧∃dx,H dx=none∧dx≠x∧H2=upd (upd (upd H x (exo x C none)) dx (exd dx (ns.zip ys).reverse)) x (exo x C (some dx))))) (fun _ _ _=>False):=by
  refine ⟨x,ys,rfl,hl,upd_same,fun e=>⟨rfl,.inl ⟨e,rfl⟩⟩,fun e dx z ne=>⟨rfl,.inr ⟨e,dx,?_,ne,rfl⟩⟩⟩
  rw [upd_ne ne] at z
  exact z
 have hT:∀Y:String,bm.contains (.type Y)=bmB.contains (.type Y):=fun Y=>excTail_contains Y bm ht
 refine wpAny_call (acU TC.fb hT (I.kIn _ _ hC) (looks_findIn I.kIn T.it) (fun self=>bind_fn I.kIn self T.ty) hus ?_)
 rw [hx]
 refine codeAny_mono (T.ok.run _ X.stack _ _ ⟨Value.ref x::us,kw⟩ (Value.ref x::bs) _ _ (fun _ _ _=>False) (hr.make C us kw) (I2.env0.make C us kw) (hb _ x I2.kIn) r2 sp) fun r s' hq'=> ?_
 cases r with
 | error er=>exact passes_call tk (fun _ _ _ _ z=>z.elim) pins σ _ _ er s' I2 hq'
 | ok fl=>
  cases fl with
  | ret u=>
   obtain ⟨v,H2,I3,rv,ev,hc⟩:=I2.after hq'
   subst ev
   refine ⟨rv,?_⟩
   obtain ⟨h2,g2,d2,t2,os2⟩:=s'
   rcases hc with ⟨e,rfl⟩ | ⟨e,dx,z,ne,rfl⟩
   ·exact (q x _ hn hsz).1 e I3
   ·have ed:upd (upd (upd H x (exo x C none)) dx (exd dx (ns.zip ys).reverse)) x (exo x C (some dx)) dx=some (exd dx (ns.zip ys).reverse):=by rw [upd_ne ne,upd_same]
    obtain ⟨mA,n1,rel⟩:=exd_at I3.hok ed
    have hod:∃o,h2.get? dx=some o:=by
     obtain ⟨o,_,_,z,_⟩:=n1
     exact ⟨o,z⟩
    have J:=I3.write (t':=t2) (h':=h2) (x:=dx) (e:=dx) (o:= .xd (ns.zip ys).reverse) (by rw [ed];exact True.intro) (.inl rfl) (fun b u _ y=>y) hod ⟨mA,n1,rel⟩
    rw [acK ne] at J
    have eq:upd (upd (upd H x (exo x C none)) dx (.xd (ns.zip ys).reverse)) x (exo x C (some dx))=upd (upd H dx (.xd (ns.zip ys).reverse)) x (exo x C (some dx)):=by
     funext b
     by_cases h1:b=x
     ·rw [h1,upd_same,upd_same]
     ·rw [upd_ne h1,upd_ne h1]
      by_cases h3:b=dx
      ·rw [h3,upd_same,upd_same]
      ·rw [upd_ne h3,upd_ne h3,upd_ne h1]
    rw [eq] at J
    exact (q x _ hn hsz).2 e dx z ne J
  | next=>exact False.elim hq'
  | brk=>exact False.elim hq'
  | cont=>exact False.elim hq'
end
variable {G:Gd}
theorem Le {α β:Type}:∀{l:List α}{r:List β},l.length=r.length→(l.zip r).reverse=l.reverse.zip r.reverse
 | [],[],_=>rfl
 | a::l,b::r,h=>by
  have h:l.length=r.length:=by simpa using h
  rw [List.zip_cons_cons,List.reverse_cons,List.reverse_cons,List.reverse_cons,Le h,List.zip_append (by simpa using h)]
  rfl
theorem DvL.rev {K:Frag}{H:Hp}:∀{vs:List V}{ds:List D},DvL K H vs ds→DvL K H vs.reverse ds.reverse
 | _,_,.nil=> .nil
 | _,_,.cons a r=>by
  rw [List.reverse_cons,List.reverse_cons]
  exact (DvL.rev r).app (.cons a .nil)
def Uv (C:Addr) (ns:List Str) (ds:List D):M D:=if ds.length=ns.length then ret (.exc C (ns.zip ds).reverse) else stk
section
variable {P:Program}{w:World}{K:Frag}{mg:Str→Option Value}{base:Heap}{C f:Addr}{qual:Str}{params:Arguments}{scope:Scope}{fd:FuncData}{B newId initId:String}{bmB:List Value}
structure XQ (P:Program) (mg:Str→Option Value) (f:Addr) (qual:Str) (params:Arguments) (scope:Scope) (p0 p1 p2 p3 pos pE:Pos) (msg:Str) (j:Nat) (ps:List Str):Prop where
 hp_:∃ar,(params.posonlyargs++params.args).head?=some ar∧ps[0]?=some ar.arg
 htop:(P.main.scope.names.lookup ("super" : Str)).isSome=false
 hmg:mg "super" = none
 hi:∀L cdv cc,interactive (eI qual scope L f cdv cc)=false
 he:∃pl:Addr→Value→Addr→Sem Bool,∀L cdv cc,eval (.Call (.Attribute (.Call (.Name "super" p0) [] [] p1) "__init__" p2) [.Constant (.str msg) j p3] [] pos) (eI qual scope L f cdv cc)=(do
   let ov ←attributeBase (.Call (.Name "super" p0) [] [] p1) "__init__" (eI qual scope L f cdv cc) (eval (.Call (.Name "super" p0) [] [] p1) (eI qual scope L f cdv cc))
   standAt p2.atName
   let (fv,first) ←holding [ov] (getMethod ov "__init__" (pl L cdv cc))
   callWith pos fv first (backTo pos (starEach [.Constant (.str msg) j p3] (eI qual scope L f cdv cc))) [])
abbrev ac2 (p0 p1 p2 p3 pos pE:Pos) (msg:Str) (j:Nat):Stmt:= .Expr (.Call (.Attribute (.Call (.Name "super" p0) [] [] p1) "__init__" p2) [.Constant (.str msg) j p3] [] pos) pE
theorem X3 {CX:CXT}{k:Nat}{p0 p1 p2 p3 pos pE q1 q2 q3 q4:Pos}{msg self n1 f1:Str}{j:Nat}(T:XC K C B newId initId bmB) (S:XS [self,n1] scope) (Y:XQ P mg f qual params scope p0 p1 p2 p3 pos pE msg j [self,n1])
  (F:XF K P C f qual params [ac2 p0 p1 p2 p3 pos pE msg j,.Assign [.Attribute (.Name self q1) f1 q2] (.Name n1 q3) q4] scope fd) (hno:findIn K (.ref C) f1=some none)
  (d1:(self==("__debug__" : Str))=false) (d2:(n1==("__debug__" : Str))=false) (e1:(self==("__classdict__" : Str))=false) (e2:(n1==("__classdict__" : Str))=false)
  (hs:∀L cdv cc,swapsWith (.Name n1 q3) (some (.Attribute (.Name self q1) f1 q2)) q4.line (eI qual scope L f cdv cc)=pure false):FnOk P w K mg base CX (k+1) f fd [self,n1] (spI C [f1]):=by
 obtain ⟨ar,h1,h2⟩:=Y.hp_
 obtain ⟨pl,he⟩:=Y.he
 refine R9 T S F h1 h2 Y.htop Y.hmg Y.hi he (fun vs H Q E h=>(spI_len h).trans rfl) fun cdv cc A outer s H vs Q E h=> ?_
 obtain ⟨a,ys,rfl,hl,ea,_,q⟩:=h
 obtain ⟨y,rfl⟩:∃y,ys=[y]:=match ys,hl with | [y],_=>⟨y,rfl⟩
 have v0:Vis scope self:= .inl (S.par _ (by simp))
 have v1:Vis scope n1:= .inl (S.par _ (by simp))
 refine ⟨a,[y],rfl,ea,_,pss_one (QW (f:=f1) T hno (pe_var (i:=0) rfl v0 d1 e1) (pe_var (i:=1) rfl v1 d2 e2) (hs _ _ _)),?_⟩
 exact ⟨y,rfl,.ref a,rfl,a,rfl,.inl ⟨ea,fun dx n ne=>q (by simp) dx n ne⟩⟩
theorem acX {CX:CXT}{k:Nat}{p0 p1 p2 p3 pos pE q1 q2 q3 q4 r1 r2 r3 r4:Pos}{msg self n1 f1 n2 f2:Str}{j:Nat}(T:XC K C B newId initId bmB) (S:XS [self,n1,n2] scope) (Y:XQ P mg f qual params scope p0 p1 p2 p3 pos pE msg j [self,n1,n2])
  (F:XF K P C f qual params [ac2 p0 p1 p2 p3 pos pE msg j,.Assign [.Attribute (.Name self q1) f1 q2] (.Name n1 q3) q4,.Assign [.Attribute (.Name self r1) f2 r2] (.Name n2 r3) r4] scope fd) (hno:findIn K (.ref C) f1=some none) (hno2:findIn K (.ref C) f2=some none)
  (d1:(self==("__debug__" : Str))=false) (d2:(n1==("__debug__" : Str))=false) (d3:(n2==("__debug__" : Str))=false) (e1:(self==("__classdict__" : Str))=false) (e2:(n1==("__classdict__" : Str))=false) (e3:(n2==("__classdict__" : Str))=false)
  (hs:∀L cdv cc,swapsWith (.Name n1 q3) (some (.Attribute (.Name self q1) f1 q2)) q4.line (eI qual scope L f cdv cc)=pure false)
  (hs2:∀L cdv cc,swapsWith (.Name n2 r3) (some (.Attribute (.Name self r1) f2 r2)) r4.line (eI qual scope L f cdv cc)=pure false):FnOk P w K mg base CX (k+1) f fd [self,n1,n2] (spI C [f1,f2]):=by
 obtain ⟨ar,h1,h2⟩:=Y.hp_
 obtain ⟨pl,he⟩:=Y.he
 refine R9 T S F h1 h2 Y.htop Y.hmg Y.hi he (fun vs H Q E h=>(spI_len h).trans rfl) fun cdv cc A outer s H vs Q E h=> ?_
 obtain ⟨a,ys,rfl,hl,ea,_,q⟩:=h
 obtain ⟨y,z,rfl⟩:∃y z,ys=[y,z]:=match ys,hl with | [y,z],_=>⟨y,z,rfl⟩
 have v0:Vis scope self:= .inl (S.par _ (by simp))
 have v1:Vis scope n1:= .inl (S.par _ (by simp))
 have v2:Vis scope n2:= .inl (S.par _ (by simp))
 refine ⟨a,[y,z],rfl,ea,_,pss_cons (QW (f:=f1) T hno (pe_var (i:=0) rfl v0 d1 e1) (pe_var (i:=1) rfl v1 d2 e2) (hs _ _ _)) (pss_one (QW (f:=f2) T hno2 (pe_var (i:=0) rfl v0 d1 e1) (pe_var (i:=2) rfl v2 d3 e3) (hs2 _ _ _))),?_⟩
 refine ⟨y,rfl,.ref a,rfl,a,rfl,.inl ⟨ea,fun dx n ne=> ?_⟩⟩
 refine ⟨z,rfl,.ref a,rfl,a,rfl,.inr ⟨dx,[(f1,y)],upd_same,by rw [upd_ne ne,upd_same],by simp,?_⟩⟩
 have h:=q (by simp) dx n ne
 rw [acK ne]
 exact h
end
variable {G:Gd}
def tyD:D→Option String
 | .non=>some "NoneType"
 | .bl _=>some "bool"
 | .int _=>some "int"
 | .str _=>some "str"
 | .lst _=>some "list"
 | .tup _=>some "tuple"
 | .qb _=>some "tuple"
 | .dct _=>some "dict"
 | .Ei _=>none
 | .DG _=>none
 | .dtn _=>none
 | .exc _ _=>none
 | .raw _=>none
 | .scr _=>none
 | .sref _=>none
theorem aaP {W:Wd}{K:Frag}{B H:Hp}{v:V}{d:D}{t:String}(k:Kn W B H) (h:Dw K B H v d) (e:tyD d=some t):TyX K H v (.type t):=by
 have sq:∀{a:Addr}{xs:List V},SqT K H a xs→TyX K H (.ref a) (.type "tuple"):=fun {a xs} q=>by
  rcases q with (q | ⟨o,q⟩) | ⟨o,its,n,q,c,_⟩
  ·exact .base (.tup q)
  ·exact .fTuple q
  ·exact .kTuple q c
 rcases h with h | ⟨p,u,rfl,hp,r⟩
 ·cases h with
  | non=>cases e;exact .base .non
  | bl b=>cases e;exact .base (.bl b)
  | int i=>cases e;exact .base (.int i)
  | str x=>cases e;exact .base (.str x)
  | lst hl r=>cases e;exact .base (.lst (k.get hl))
  | tup hs r=>cases e;exact sq (k.t hs)
  | qb hs _ r=>cases e;exact sq (k.tp hs)
  | dcE hd=>cases e;exact .base (.dK (k.get hd))
  | dcK hd _ _=>cases e
  | dcT hd _ _=>cases e
  | dcN hd _ _=>cases e
  | raw v=>cases e
  | scr _=>cases e
  | sref _=>cases e
  | exc _ _ _ _=>cases e
 ·cases r with
  | lst r=>cases e;exact .base (.lst hp)
  | _=>cases e
theorem abl {P:Program}{w:World}{H:Hp}{h:Heap}{a C:Addr}{od:Option Addr}{fs:List (Str×V)}(hok:HOk P w H h) (e:H a=some (xlo a C od)) (x:XD H od fs):∃ox oo,InstAt h a ox C oo:=by
 obtain ⟨fv,sl,ho⟩:=Wf hok e
 cases od with
 | none=>exact ⟨_,none,ho,rfl,rfl,trivial⟩
 | some dx=>
  have hx:ObjOk P w H h dx (.xd fs):=hok dx _ x
  obtain ⟨mA,⟨o,es,ep,hd,r⟩,_⟩:=hx
  exact ⟨_,some o,ho,rfl,rfl,hd⟩
section
variable {prog:Program}{w:World}{A:Around}{E:Value→Shared→Prop}{s:Shared}{K:Frag}{x D:Addr}
theorem Zh {Q:Option Value→Shared→Prop}{ox:Obj}{oo:Option Obj}(T:ExcC K D) (X:K.In s.heap) (I:InstAt s.heap x ox D oo) (h:Q (some (.ref D)) { s with toks:=s.toks+1}):wpAny (model prog w) A (getAttr? (.ref x) "__class__") Q E s:=by
 have hf:findObj K D oo "__class__" = some (.bind (.builtin "getset_descriptor.__get__") (.builtin "object.__class__")):=by
  obtain ⟨cd,hc,_⟩:=any_some T.hd
  have hi:(clsIn K D).isSome=true:=by rw [hc];rfl
  cases oo with
  | none=>exact findObj_dataN hi T.ha T.hn T.ht
  | some o=>exact findObj_data hi T.ha T.hn T.ht
 obtain ⟨hp,g,d,t,os⟩:=s
 have l0:=I.type (M:=model prog w)
 have l1:=looks_findIn (M:=model prog w) X T.hg
 have l2:=looks_findIn (M:=model prog w) X T.hk
 have l3:=looks_find (M:=model prog w) X I hf
 have sub:Looks (model prog w) hp (isInstance (.ref x) (.type "BaseException")) true:=l0.andThen (looks_subIn X T.hs)
 have z2:(Value.builtin "BaseException.__getattribute__" == Value.builtin "object.__getattribute__")=false:=by decide +kernel
 have z1:(onTheHeap (Value.ref D)&&Value.builtin "BaseException.__getattribute__" == Value.builtin "object.__getattribute__")=false:=by rw [z2];rfl
 unfold getAttr? getAttrBy? getAttrBy
 refine wpAny_bind (wpAny_mkText (wpAny_bind (wpAny_attempt (wpAny_holding (wpAny_bind (l0.at (wpAny_bind (l1.at ?_))))))))
 show wpAny _ _ (if (onTheHeap (Value.ref D)&&Value.builtin "BaseException.__getattribute__" == Value.builtin "object.__getattribute__")=true then _ else _) _ _ _
 rw [z1,if_neg Bool.false_ne_true]
 unfold getAttrByItsOwn hookBefore
 refine wpAny_bind ?_
 rw [if_pos (show onTheHeap (Value.ref D)=true from rfl)]
 refine l2.at (wpAny_bind (wpAny_attempt (wpAny_holding ?_)))
 unfold callGetattribute
 rw [show (false&&onTheHeap (Value.builtin "BaseException.__getattribute__"))=false from rfl,if_neg Bool.false_ne_true]
 unfold boundAndCalled
 rw [PySem.F.excAttr_ValueError.ga.bind (.ref x)]
 refine wpAny_bind (wpAny_pure ?_)
 show wpAny _ _ (call (.builtin "BaseException.__getattribute__") [.ref x,.str "__class__" t]) _ _ _
 refine wpAny_call (codeAny_call_builtin PySem.F.excAttr_ValueError.ga.plain PySem.F.entry_bexc_ga ?_)
 refine @check_slot (model prog w) _ _ ⟨hp,g,d,t+1,os⟩ "BaseException.__getattribute__" "BaseException" "__getattribute__" (.ref x) [.str "__class__" t] [] _ (by decide +kernel) (by decide +kernel) sub (PySem.F.args_bexc_ga (.ref x) (.str "__class__" t)) ?_
 unfold Builtin.«object.__getattribute__»
 refine wpAny_bind (wpAny_of_eq (a:=((Value.ref x:Value),[Value.str "__class__" t])) (by first | rfl | (simp only [slotArgs];rfl)) ?_)
 refine wpAny_bind (wpAny_pure (wpAny_bind (l0.at (wpAny_bind (l3.at ?_)))))
 show wpAny _ _ (holding [Value.builtin "object.__class__"] (call (.builtin "getset_descriptor.__get__") [.builtin "object.__class__",.ref x,.ref D]) >>= PySem.ret) _ _ _
 refine wpAny_bind (wpAny_holding (wpAny_call (class_get (s:=⟨hp,g,d,t+1,os⟩) (ox:=ox) (od:=oo) X I T.hm ?_)))
 refine wpAny_pure ?_
 show wpAny _ _ (handedOut (.ref D)) _ _ _
 rw [handedOut_of (v:= .ref D) rfl]
 first | exact wpAny_pure (wpAny_pure h) | exact wpAny_pure h | exact wpAny_pure (wpAny_bind (wpAny_pure (wpAny_pure h)))
theorem abx (T:ExcC K D):KitX K (.ref x) (.ref D) (fun h=>∃ox oo,InstAt h x ox D oo) where
 ty:=fun _ _ _ ⟨_,_,I⟩=>I.type
 it:=fun _ _ X _=>by
  obtain ⟨cd,hc,_⟩:=any_some T.hd
  unfold clsIn at hc
  split at hc
  ·rename_i ho
   intro A' Q' E' s' k q
   unfold isType loadHead
   exact wpAny_bind (wpAny_loadPart (k _ _ (X _ _ ho)) (wpAny_pure q))
  ·cases hc
 ne:=fun h tp dd its n sl X htp=>by
  obtain ⟨cd,hc,_⟩:=any_some T.hd
  refine Bool.eq_false_iff.mpr fun q=> ?_
  have e:D=tp:=Value.ref.inj (beq_iff_eq.mp q)
  subst e
  unfold clsIn at hc
  split at hc
  ·rename_i ho
   have z:=(X _ _ ho).symm.trans htp
   cases z
  ·cases hc
 ca:=fun X ⟨_,_,I⟩ k=>Zh T X I k
end
abbrev IsT:=Addr→V→Option Bool
structure IsOk (K:Frag) (tb:IsT):Prop where
 ok:∀C c b,tb C c=some b→ExcC K C∧∃u,ClsV c u∧kitOne K (.ref C) u=some b
def ad4 (tb:IsT):List V→Hp→VK→Prop:=fun xs H Q=>∃(a C:Addr) (od:Option Addr) (fs:List (Str×V)) (c:V) (b:Bool),xs=[.ref a,c]∧H a=some (xlo a C od)∧XD H od fs∧tb C c=some b∧Q (.bl b) H
section
variable {X:Cx}{tb:IsT}
theorem Wi (T:IsOk X.K tb):CallR X (.builtin "isinstance") (ad4 tb):=by
 intro pins s σ H xs us Q I r h
 obtain ⟨a,C,od,fs,c,b,rfl,ea,x,e,q⟩:=h
 obtain ⟨u1,u2,rfl,r1,r2⟩:=vals2 r
 obtain rfl:u1=Value.ref a:=r1
 obtain ⟨t,u,k,ek⟩:=T.ok _ _ _ e
 have e2:=k.eq r2
 subst e2
 exact kia_one (abx t) I.kIn (abl I.hok ea x) ek (fun z=>nomatch z) fun tk=>⟨.bl b,H,I.tok tk,rfl,q⟩
def isOne (d:D) (n:String):M D:=match tyD d with
 | some t=>(match kitB t n with
  | some b=>ret (.bl b)
  | none=>stk)
 | none=>stk
def kJ (tb:IsT) (ds:List D):M D:=match ds with
 | [d,.raw c]=>(match d with
  | .exc C _=>(match tb C c with
   | some b=>ret (.bl b)
   | none=>stk)
  | d=>(match c with
   | .ty n=>isOne d n
   | _=>stk))
 | _=>stk
theorem j9 (T:IsOk X.K tb):Cl X (.builtin "isinstance") (kJ tb):=by
 refine ⟨_,call_isi.or (Wi T),fun W B H s vs ds Q E k w r h=> ?_⟩
 unfold kJ at h
 split at h
 ·rename_i d c
  cases r with
  | cons a r=>
   cases r with
   | cons a2 r=>
    cases r
    cases a2.raw
    split at h
    ·rename_i C fs
     cases e:tb C c with
     | none=>rw [e] at h;exact (show False from h).elim
     | some b=>
      rw [e] at h
      have hd:=a.dv (by rfl)
      cases hd with
      | exc ea x hl r=>
       exact .inr ⟨_,C,_,_,c,b,rfl,k.get ea,k.xd x,e,h.bU k w (.bl b)⟩
    ·split at h
     ·rename_i n
      unfold isOne at h
      cases e:tyD d with
      | none=>rw [e] at h;exact (show False from h).elim
      | some t=>
       rw [e] at h
       have h:Ans W X.K B H ((match kitB t n with | some b=>ret (.bl b) | none=>stk:M D) s) Q E:=h
       cases e2:kitB t n with
       | none=>rw [e2] at h;exact (show False from h).elim
       | some b=>
        rw [e2] at h
        exact .inl ⟨_,_,_,_,b,rfl,.ty n,aaP k a e,kit_ty e2,h.bU k w (.bl b)⟩
     ·exact (show False from h).elim
 ·exact (show False from h).elim
structure AtOk (K:Frag) (ok:Addr→Str→Bool):Prop where
 ok:∀C f,ok C f=true→XfC K C∧findIn K (.ref C) f=some none
def U4 (ok:Addr→Str→Bool) (f:Str) (d:D):M D:=match d with
 | .exc C fs=>if ok C f=true then (match fs.lookup f with
  | some d=>ret d
  | none=>stk) else stk
 | _=>stk
theorem Nz {K:Frag}{H:Hp}:∀{ns:List Str}{vs:List V}{ds:List D}{f:Str}{d:D},DvL K H vs ds→(ns.zip ds).lookup f=some d→∃v,(ns.zip vs).lookup f=some v∧Dv K H v d
 | [],_,_,f,d,_,e=>by simp at e
 | _::_,_,_,f,d,.nil,e=>by simp at e
 | n::ns,_,_,f,d,.cons a r,e=>by
  rw [List.zip_cons_cons] at e ⊢
  simp only [List.lookup] at e ⊢
  cases h:(f==n) with
  | true=>
   rw [h] at e
   cases e
   exact ⟨_,rfl,a⟩
  | false=>
   rw [h] at e
   exact Nz r e
theorem nO {Wx:WX}{e:Expr}{me:bJ D}{ok:Addr→Str→Bool}{f:Str}{pos:Pos}(T:AtOk X.K ok) (he:SE G X Wx e me) (hb:attributeBase e f X.env (eval e X.env)=eval e X.env:=by rfl):SE G X Wx (.Attribute e f pos) (fun ls=>bnd (me ls) (U4 ok f)):=by
 obtain ⟨t,pt,ht⟩:=he.ex
 refine ⟨fun σ H Q=>t σ H fun x H1=>∃(a C dx:Addr) (fs:List (Str×V)) (v:V),x = .ref a∧H1 a=some (xlo a C (some dx))∧H1 dx=some (.xd fs)∧ok C f=true∧fs.lookup f=some v∧Q v H1,⟨fun pins s σ H Q I h=> ?_⟩,fun W H0 σ B H ls s Q k w sm h=> ?_⟩
 ·refine attr_of hb (thn (pt.run pins s σ H _ I h) fun u s1 hh=> ?_)
  obtain ⟨x,H1,I1,rx,a,C,dx,fs,v,ex,ea,ed,eo,l,q⟩:=hh
  subst ex
  obtain rfl:u=Value.ref a:=rx
  obtain ⟨TC,hno⟩:=T.ok _ _ eo
  obtain ⟨fv,sl,ha⟩:=Wf I1.hok ea
  have hx:ObjOk X.prog X.w H1 s1.heap dx (.xd fs):=I1.hok dx _ ed
  obtain ⟨mA,hns,hr⟩:=hx
  obtain ⟨od,ho,hl⟩:=lookIn_ns hns
  obtain ⟨u,hu,ru⟩:=RelO.some_of (v:=v) (o:=mA f) (by rw [←l];exact hr f)
  have J:InstAt s1.heap a ({ cls:= .ref C,dict:=some dx,data:= .fields fv,slots:=sl}:Obj) C (some od):=⟨ha,rfl,rfl,ho⟩
  exact HandSPX.exc_get I1.kIn J TC.ga TC.gg TC.exC (findObj_own TC.hdC hno rfl (by rw [hl,hu])) (handed_of ru) ⟨v,H1,I1.tok _,ru,q⟩
 ·refine ht W H0 σ B H ls s _ k w sm ?_
  cases e1:me ls s with
  | stuck=>rw [aO e1] at h;exact h
  | exc C fs s'=>rw [aC e1] at h;exact h
  | ok d s1=>
   rw [aP e1] at h
   intro v B1 H1 g1 w1 r1
   have h:=h.grow g1
   unfold U4 at h
   split at h
   ·split at h
    ·rename_i C fs hh hok
     cases e2:fs.lookup f with
     | none=>rw [e2] at h;exact (show False from h).elim
     | some d=>
      rw [e2] at h
      cases r1 with
      | @exc a C od ns vs ds ea x hl r=>
       obtain ⟨v,l,rv⟩:=Nz r e2
       cases od with
       | none=>
        rw [show ns.zip vs=[] from x] at l
        cases l
       | some dx=>exact ⟨a,C,dx,_,v,rfl,g1.kn.get ea,g1.kn.get x,hok,l,h.bU g1.kn w1 rv⟩
    ·exact (show False from h).elim
   ·exact (show False from h).elim
end
variable {G:Gd}{T:List NdefX.NTab}
structure RoomG (k:Nat) (A:Around):Prop where
 room:Room k A
 gu:A.guards=some []
theorem RoomG.mono {j k:Nat}{A:Around}(r:RoomG k A) (h:j≤k):RoomG j A:=⟨r.room.mono h,r.gu⟩
theorem RoomG.deeper {k:Nat}{A:Around}(r:RoomG (k+1) A) (env:Env):RoomG k (A.deeper env):=⟨r.room.deeper env,r.gu⟩
structure FnG (P:Program) (w:World) (K:Frag) (mg:Str→Option Value) (base:Heap) (k:Nat) (f:Addr) (fd:FuncData) (ps:List Str) (sp:Sp):Prop where
 len:∀vs H Q E,sp vs H Q E→vs.length=ps.length
 run:∀(A:Around) (outer:List Env) (s:Shared) (H:Hp) (args:Args) (us:List Value) (vs:List V) (Q:VK) (E:XK),RoomG k A→Env0 P w K mg base A outer s H→BindsTo s fd args (ps.zip us)→Vals vs us→sp vs H Q E →
  codeAny (model P w) A (.call (.ref f) args) (CR (L2.CX P w) outer P w H s Q E) s
section
variable {P:Program}{w:World}{K:Frag}{mg:Str→Option Value}{base:Heap}{k:Nat}{f:Addr}{fd:FuncData}{ps:List Str}{sp sp':Sp}
theorem FnG.of (F:FnOk P w K mg base (L2.CX P w) k f fd ps sp):FnG P w K mg base k f fd ps sp:=⟨F.len,fun A outer s H args us vs Q E r=>F.run A outer s H args us vs Q E r.room⟩
theorem FnG.mono {j:Nat}(F:FnG P w K mg base j f fd ps sp) (h:j≤k):FnG P w K mg base k f fd ps sp:=⟨F.len,fun A outer s H args us vs Q E r=>F.run A outer s H args us vs Q E (r.mono h)⟩
theorem FnG.imp (F:FnG P w K mg base k f fd ps sp) (h:∀vs H Q E,sp' vs H Q E→sp vs H Q E):FnG P w K mg base k f fd ps sp':=
 ⟨fun vs H Q E q=>F.len vs H Q E (h vs H Q E q),fun A outer s H args us vs Q E r e b v q=>F.run A outer s H args us vs Q E r e b v (h vs H Q E q)⟩
theorem X7 {x qual:Str}{params:Arguments}{body:List Stmt}{scope:Scope}{dvs:List V}{kws:List (Str×V)}{N:List Str}(F:FunD K x qual params body scope dvs kws f fd) (S:FnScope N ps scope) (len:∀vs H Q E,sp vs H Q E→vs.length=ps.length)
  (hb:∀(cdv:Value) (A:Around) (outer:List Env) (s:Shared) (H:Hp) (vs:List V) (Q:VK) (E:XK),RoomG k (A.deeper (envOfC qual scope s.heap.objs.size f cdv))→sp vs H Q E →
   ∃t,PSs (cxOf (L2.CX P w) P w K mg base N qual scope f cdv A outer s H E) body t∧t { nx:=fun _ H'=>Q .non H',rt:=Q} (L2.start N vs) H):FnG P w K mg base (k+1) f fd ps sp:=by
 obtain ⟨oc,od,dV,kV,doc,pm,an,cdv,ct,osl,rfl,lk,hcd,_,_⟩:=F.ex
 refine ⟨len,fun A outer s H args us vs Q E rg e0 bd rv q=> ?_⟩
 have kept:=fun b o e=>(e0.bs b o e).1
 have kin:K.In s.heap:=e0.mod.kin.keeps kept
 obtain ⟨t,pt,ht⟩:=hb cdv A outer s H vs Q E (rg.deeper _) q
 refine codeAny_call_function rg.room.depth (kin _ _ lk) rfl S.co S.gen rfl (codeRec_of kin hcd) (bd _ _ _ _ ?_)
 refine wpAny_newFunctionEnv_cells S.kind (fun y hy=>(S.par y.1 (List.of_mem_zip hy).1).imp id fun z=>⟨z,cellsFrom_some _ _ _ (.inl z)⟩) fun env he s1 x=> ?_
 subst he
 refine ⟨(e0.mod.nolimit.keeps kept).keeps x.toInCall.keep,codeAny_func (wpAny_mono (pt.run [] s1 (L2.start N vs) H _ (inv_start S rg.room.hd e0 (len vs H Q E q) rv x) ht) (fun fl s' z=> ?_) fun e s' z=>z)⟩
 cases fl with
 | ret u=>
  obtain ⟨v,σ',H',J,r,q⟩:=z
  exact ⟨v,H',J.os,J.bare,J.base,J.hok,r,q⟩
 | next=>
  obtain ⟨σ',H',J,q⟩:=z
  exact ⟨V.non,H',J.os,J.bare,J.base,J.hok,rfl,q⟩
 | brk=>
  obtain ⟨_,_,_,q⟩:=z
  exact (show False from q).elim
 | cont=>
  obtain ⟨_,_,_,q⟩:=z
  exact (show False from q).elim
theorem aa7 {x qual:Str}{params:Arguments}{body:List Stmt}{scope:Scope}{dvs:List V}{kws:List (Str×V)}{N:List Str}{mb:MS}(F:FunD K x qual params body scope dvs kws f fd) (S:FnScope N ps scope) (hl:ps.length≤N.length)
  (hb:∀(cdv:Value) (A:Around) (outer:List Env) (s:Shared) (H:Hp) (E:XK),RoomG k (A.deeper (envOfC qual scope s.heap.objs.size f cdv))→SSs (G0 T w) (cxOf (L2.CX P w) P w K mg base N qual scope f cdv A outer s H E) (EW E) body mb) :
  FnG P w K mg base (k+1) f fd ps (Km K T ps.length (dG N.length mb)):=by
 refine X7 F S (fun vs H Q E h=>h.1) (fun cdv A outer s H vs Q E hr h=> ?_)
 obtain ⟨hlen,W,B,sd,ds,et,kn,wk,r,a⟩:=h
 obtain ⟨t,pt,ht⟩:=(hb cdv A outer s H E hr).ex
 exact ⟨t,pt,Ry (X:=cxOf (L2.CX P w) P w K mg base N qual scope f cdv A outer s H E) (by rw [hlen];exact hl) kn wk r ⟨trivial,et⟩ a ht⟩
theorem Yr {n:Nat}{m m':List D→M D}(F:FnG P w K mg base k f fd ps (Km K T n m)) (h:∀ds s,m' ds s ≠ .stuck→m ds s=m' ds s):FnG P w K mg base k f fd ps (Km K T n m'):=
 F.imp fun vs H Q E ⟨hl,W,B,s,ds,et,kn,wk,r,a⟩=>⟨hl,W,B,s,ds,et,kn,wk,r,by
  rw [h ds s (fun z=>by rw [z] at a;exact a)]
  exact a⟩
end
section
variable {X:Cx}{Wx:WX}{e:Expr}{es:List Expr}{ms:bJ (List D)}{pos p:Pos}{k:Nat}{f:Addr}{fd:FuncData}{ps:List Str}{sp:Sp}{x:Str}
theorem Og {pins:List (Addr×Obj)}{σ:L2.St}{H:Hp}{s:Shared}{Q:VK}{us:List Value}{vs:List V}(F:FnG X.prog X.w X.K X.mg X.base k f fd ps sp) (hr:RoomG k X.A) (hb:Binds X.K fd ps []) (tk:Takes X Wx)
  (I:Inv X pins σ H s) (r:Vals vs us) (h:sp vs H Q (fun c d H'=>Wx c d σ H')):wpAny (model X.prog X.w) X.A (call (.ref f) us) (EP X pins σ Q) X.xe s:=by
 have hl:(us++[]).length=ps.length:=by
  rw [List.append_nil,←Paired.length r]
  exact F.len _ _ _ _ h
 have b:=hb s us I.kIn hl
 rw [List.append_nil] at b
 refine wpAny_call (codeAny_mono (F.run X.A X.stack s H ⟨us,[]⟩ us vs Q _ hr I.env0 b r h) fun z s' q=> ?_)
 cases z with
 | error e=>exact passAt tk σ pins H s e s' I q
 | ok fl=>
  cases fl with
  | ret u=>exact I.after q
  | next=>exact False.elim q
  | brk=>exact False.elim q
  | cont=>exact False.elim q
theorem Xo {n:Nat}{m:List D→M D}(F:FnG X.prog X.w X.K X.mg X.base k f fd ps (Km X.K G.tb n m)) (hr:RoomG k X.A) (hg:Gl X x) (hm:X.mg x=some (.ref f)) (hk:keepIn X.K (.ref f)=true)
  (hb:Binds X.K fd ps []) (tk:Takes X Wx) (ha:SA G X Wx (e::es) ms) (hdb:(x==("__debug__" : Str))=false:=by decide) (he:starEach (e::es) X.env=(false,eval e X.env)::starEach es X.env:=by rfl) (hpl:(backTo pos (starEach es X.env)).any (·.1)=false:=by rfl) :
  SE G X Wx (.Call (.Name x p) (e::es) [] pos) (fun ls=>bnd (ms ls) (aQ n m)):=by
 obtain ⟨t,pt,ht⟩:=ha.ex
 refine ⟨fun σ H Q=>t σ H fun vs H1=>Km X.K G.tb n m vs H1 Q (fun c d H'=>Wx c d σ H'),⟨fun pins s σ H Q I h=> ?_⟩,fun W H0 σ B H ls s Q k w sm h=>Tr (X:=X) ht W H0 σ B H ls s Q k w sm h⟩
 refine wpAny_Call_Name_kw (ld_glob I hg hm ?_ hdb)
 refine callWith_K (h₀:=X.base) I.ok.mod.kin hk (thn (pt.run pos pins s σ H _ I h) fun us s1 ⟨vs,H1,I1,r,q⟩=>⟨I1.kIn,?_⟩) he hpl
 exact Og F hr hb tk I1 r q
end
variable {G:Gd}
mutual
def D.pr:D→Option PyData
 | .non=>some .none
 | .bl b=>some (.bool b)
 | .int i=>some (.int i)
 | .str s=>some (.str s)
 | .lst xs=>(D.zP xs).map .list
 | .tup xs=>(D.zP xs).map .tuple
 | .qb xs=>(D.zP xs).map .tuple
 | .dct []=>some (.dict [])
 | _=>none
def D.zP:List D→Option (List PyData)
 | []=>some []
 | x::xs=>match D.pr x,D.zP xs with
  | some a,some r=>some (a::r)
  | _,_=>none
end
mutual
theorem D.zL:∀{d:D}{p:PyData},d.pr=some p→d.sol=true
 | .non,_,_=>rfl
 | .bl b,_,_=>rfl
 | .int i,_,_=>rfl
 | .str s,_,_=>rfl
 | .lst xs,_,e=>by
  unfold D.pr at e
  cases q:D.zP xs with
  | none=>rw [q] at e;cases e
  | some l=>unfold D.sol;exact D.Bu q
 | .tup xs,_,e=>by
  unfold D.pr at e
  cases q:D.zP xs with
  | none=>rw [q] at e;cases e
  | some l=>unfold D.sol;exact D.Bu q
 | .qb xs,_,e=>by
  unfold D.pr at e
  cases q:D.zP xs with
  | none=>rw [q] at e;cases e
  | some l=>unfold D.sol;exact D.Bu q
 | .dct [],_,_=>rfl
 | .dct (_::_),_,e=>by unfold D.pr at e;cases e
 | .Ei _,_,e=>by unfold D.pr at e;cases e
 | .DG _,_,e=>by unfold D.pr at e;cases e
 | .dtn _,_,e=>by unfold D.pr at e;cases e
 | .exc _ _,_,e=>by unfold D.pr at e;cases e
 | .raw _,_,_=>rfl
 | .scr _,_,_=>rfl
 | .sref _,_,e=>by unfold D.pr at e;cases e
theorem D.Bu:∀{ds:List D}{ps:List PyData},D.zP ds=some ps→D.Jk ds=true
 | [],_,_=>rfl
 | x::xs,_,e=>by
  unfold D.zP at e
  cases q:x.pr with
  | none=>rw [q] at e;cases e
  | some a=>
   cases q2:D.zP xs with
   | none=>rw [q,q2] at e;cases e
   | some l=>unfold D.Jk;rw [D.zL q,D.Bu q2];rfl
end
section
variable {X:Cx}{pins:List (Addr×Obj)}{σ:L2.St}{H:Hp}{s:Shared}
mutual
theorem Dv.Yi (I:Inv X pins σ H s) (ns:H sysModules=none):∀{v:V}{d:D}{p:PyData}{u:Value},Dv X.K H v d→d.pr=some p→RelV v u→∃as,Reads s.heap u p as∧sysModules∉as
 | _,_,_,u,.non,e,r=>by
  unfold D.pr at e
  cases e
  obtain rfl:u=Value.none:=r
  exact ⟨_,.none,fun z=>by cases z⟩
 | _,_,_,u,.bl b,e,r=>by
  unfold D.pr at e
  cases e
  obtain rfl:u=Value.bool b:=r
  exact ⟨_,.bool b,fun z=>by cases z⟩
 | _,_,_,u,.int i,e,r=>by
  unfold D.pr at e
  cases e
  obtain ⟨t,rfl⟩:=r
  exact ⟨_,.int i t,fun z=>by cases z⟩
 | _,_,_,u,.str x,e,r=>by
  unfold D.pr at e
  cases e
  obtain ⟨t,rfl⟩:=r
  exact ⟨_,.str x t,fun z=>by cases z⟩
 | _,_,_,u,.lst (a:=a) (ds:=ds) h q,e,r=>by
  unfold D.pr at e
  cases e1:D.zP ds with
  | none=>rw [e1] at e;cases e
  | some ps=>
   rw [e1] at e
   cases e
   obtain rfl:u=Value.ref a:=r
   obtain ⟨its,rv,⟨o,n,ho,hc,_,hd⟩,_⟩:=I.list (SqL.of h)
   obtain ⟨as,hr,hm⟩:=DvL.Yi I ns q e1 rv
   refine ⟨_,.list ho hc hd hr,fun z=> ?_⟩
   rcases List.mem_cons.mp z with z | z
   ·rw [z,h] at ns
    cases ns
   ·exact hm z
 | _,_,_,u,.tup (a:=a) (ds:=ds) h q,e,r=>by
  unfold D.pr at e
  cases e1:D.zP ds with
  | none=>rw [e1] at e;cases e
  | some ps=>
   rw [e1] at e
   cases e
   obtain rfl:u=Value.ref a:=r
   obtain ⟨its,rv,⟨o,ho,hc,n,hd⟩,_⟩:=I.tuple (SqT.of h)
   obtain ⟨as,hr,hm⟩:=DvL.Yi I ns q e1 rv
   exact ⟨_,.tuple ho hc hd hr,hm⟩
 | _,_,_,u,.qb (a:=a) (o:=o) (ds:=ds) h _ q,e,r=>by
  unfold D.pr at e
  cases e1:D.zP ds with
  | none=>rw [e1] at e;cases e
  | some ps=>
   rw [e1] at e
   cases e
   obtain rfl:u=Value.ref a:=r
   obtain ⟨its,rv,⟨o,ho,hc,n,hd⟩,_⟩:=I.tuple (Or.inl (Or.inr ⟨o,h⟩))
   obtain ⟨as,hr,hm⟩:=DvL.Yi I ns q e1 rv
   exact ⟨_,.tuple ho hc hd hr,hm⟩
 | _,_,_,u,.dcE (a:=a) h,e,r=>by
  unfold D.pr at e
  cases e
  obtain rfl:u=Value.ref a:=r
  obtain ⟨_,nq,vs,kv,o,es,ep,h1,h2,h3,_,h4,_⟩:=(show ObjOk X.prog X.w H s.heap a (.dK []) from I.hok a _ h)
  cases kv
  have e0:es.toList=[]:=by
   cases h4':es.toList with
   | nil=>rfl
   | cons x r=>rw [h4'] at h4;cases h4
  refine ⟨[a],.dict (as:=[]) (bs:=[]) h1 h2.1 h3 (by rw [e0];exact .nil) (by rw [e0];exact .nil),fun z=> ?_⟩
  have z:=List.mem_singleton.mp z
  rw [←z] at nq
  simp at nq
 | _,_,_,u,.dcK _ _ _,e,r=>by unfold D.pr at e;cases e
 | _,_,_,u,.dcT _ _ _,e,r=>by unfold D.pr at e;cases e
 | _,_,_,u,.dcN _ _ _,e,r=>by unfold D.pr at e;cases e
 | _,_,_,u,.raw v,e,r=>by unfold D.pr at e;cases e
 | _,_,_,u,.scr _,e,r=>by unfold D.pr at e;cases e
 | _,_,_,u,.sref _,e,r=>by unfold D.pr at e;cases e
 | _,_,_,u,.exc _ _ _ _,e,r=>by unfold D.pr at e;cases e
theorem DvL.Yi (I:Inv X pins σ H s) (ns:H sysModules=none):∀{vs:List V}{ds:List D}{ps:List PyData}{us:List Value},DvL X.K H vs ds→D.zP ds=some ps→Vals vs us→∃as,ReadsAll s.heap us ps as∧sysModules∉as
 | _,_,_,_,.nil,e,r=>by
  unfold D.zP at e
  cases e
  cases r
  exact ⟨_,.nil,fun z=>by cases z⟩
 | _,_,_,_,.cons (d:=d) (ds:=ds) a q,e,r=>by
  unfold D.zP at e
  cases r with
  | cons r1 r2=>
   cases e1:d.pr with
   | none=>rw [e1] at e;cases e
   | some x=>
    cases e2:D.zP ds with
    | none=>rw [e1,e2] at e;cases e
    | some l=>
     rw [e1,e2] at e
     cases e
     obtain ⟨as,h1,m1⟩:=Dv.Yi I ns a e1 r1
     obtain ⟨bs,h2,m2⟩:=DvL.Yi I ns q e2 r2
     refine ⟨_,.cons h1 h2,fun z=> ?_⟩
     rcases List.mem_append.mp z with z | z
     ·exact m1 z
     ·exact m2 z
end
end
def okR (p:PyData):Bool:=p.showable&&decide (p.shown.length≤sizeLine)&&decide (p.depth≤64)
def acw (K:Frag):List V→Hp→VK→Prop:=fun xs H Q=>∃(v:V) (d:D) (p:PyData),xs=[v]∧Dv K H v d∧d.pr=some p∧okR p=true∧Q (.str p.shown) H
def DW (ds:List D):M D:=match ds with
 | [d]=>(match d.pr with
  | some p=>if okR p=true then ret (.str p.shown) else stk
  | none=>stk)
 | _=>stk
section
variable {X:Cx}{k:Nat}
theorem Uy (hr:RoomG k X.A) (sm:∃o,X.K.lookup sysModules=some o):CallR X (.builtin "repr") (acw X.K):=by
 intro pins s σ H xs us Q I r h
 obtain ⟨v,d,p,rfl,dv,ep,ok,q⟩:=h
 obtain ⟨u,rfl,ru⟩:=vals1 r
 obtain ⟨om,em⟩:=sm
 obtain ⟨as,rd,hm⟩:=dv.Yi I (I.bs _ _ (I.ok.mod.kin _ _ em)).2 ep ru
 unfold okR at ok
 simp only [Bool.and_eq_true,decide_eq_true_eq] at ok
 obtain ⟨⟨hs,hz⟩,hd⟩:=ok
 have hsm:p.hasDict=true→sysModules∉as:=fun _=>hm
 have hu:X.A.units+65<cLine:=by have:=hr.room.un;omega
 have ref:∀a,u = .ref a→wpAny (model X.prog X.w) X.A (call (.builtin "repr") [u]) (EP X pins σ Q) X.xe s:=fun a e=>by
  subst e
  exact repr_of_reads' rd hs hsm hr.gu (by omega) (fun _ _ e=>e) (fun h' t tk kept=>⟨.str p.shown,H,I.kept (h':=h') (t':=tk) kept,⟨t,rfl⟩,q⟩) hz
 cases rd with
 | none=>exact PySem.P.repr_of_none ⟨.str _,H,I.tok _,⟨_,rfl⟩,q⟩
 | bool b=>exact PySem.P.repr_of_bool ⟨.str _,H,I.tok _,⟨_,rfl⟩,by unfold PyData.shown at q;exact q⟩
 | int i t=>
  refine PySem.P.repr_of_int (by unfold PyData.showable at hs;exact of_decide_eq_true hs) ⟨.str _,H,I.tok _,⟨_,rfl⟩,by unfold PyData.shown at q;exact q⟩
 | str x t=>exact PySem.P.repr_of_str ⟨.str _,H,I.tok _,⟨_,rfl⟩,by unfold PyData.shown at q;exact q⟩ (by unfold PyData.shown at hz;exact hz)
 | list _ _ _ _=>exact ref _ rfl
 | tuple _ _ _ _=>exact ref _ rfl
 | dict _ _ _ _ _=>exact ref _ rfl
theorem V9 (hr:RoomG k X.A) (sm:∃o,X.K.lookup sysModules=some o):Cl X (.builtin "repr") DW:=by
 refine ⟨_,Uy hr sm,fun W B H s vs ds Q E k w r h=> ?_⟩
 unfold DW at h
 split at h
 ·rename_i d
  cases r with
  | cons a r=>
   cases r
   cases e:d.pr with
   | none=>rw [e] at h;exact (show False from h).elim
   | some p=>
    rw [e] at h
    have h:Ans W X.K B H ((if okR p=true then ret (.str p.shown) else stk:M D) s) Q E:=h
    split at h
    ·rename_i ok
     refine ⟨_,d,p,rfl,?_,e,ok,h.bU k w (.str _)⟩
     rcases a with a | ⟨q,u,rfl,hp,r⟩
     ·exact (a.Fe (D.zL e)).mono k.sub
     ·cases r with
      | lst r=>exact .lst hp ((r.Fe (by have z:=D.zL e;unfold D.sol at z;exact z)).mono k.sub)
      | _=>have z:=D.zL e;unfold D.sol at z;cases z
    ·exact (show False from h).elim
 ·exact (show False from h).elim
end
variable {G:Gd}
theorem RM {K:Frag}{H:Hp}:∀ns:List Int,DvL K H (ns.map V.int) (ns.map D.int)
 | []=> .nil
 | n::ns=> .cons (.int n) (RM ns)
def Em:D→M (List D)
 | .lst xs=>ret xs
 | .scr ns=>ret (ns.map D.int)
 | _=>stk
theorem Dv.Em {K:Frag}{B:Hp}{v:V}{d:D}{s s':DS}{xs:List D}(r:Dv K B v d) (h:Em d s = .ok xs s'):s'=s∧∃q vs,v = .ref q∧SqL K B q vs∧DvL K B vs xs:=by
 unfold PV.Em at h
 split at h
 ·cases h
  cases r with
  | lst hs r=>exact ⟨rfl,_,_,rfl,SqL.of hs,r⟩
 ·cases h
  cases r with
  | scr hs=>exact ⟨rfl,_,_,rfl,hs,RM _⟩
 ·cases h
theorem GX (d:D) (s:DS):(∃xs,Em d s = .ok xs s)∨Em d s = .stuck:=by
 unfold Em
 split
 ·exact .inl ⟨_,rfl⟩
 ·exact .inl ⟨_,rfl⟩
 ·exact .inr rfl
def jB (n:Nat):List D→List D
 | []=>[]
 | x::xs=> .tup [.int n,x]::jB (n+1) xs
theorem yG:∀(n:Nat) (xs:List D),(jB n xs).length=xs.length
 | _,[]=>rfl
 | n,x::xs=>by rw [jB,List.length_cons,List.length_cons,yG]
theorem yK:∀(n:Nat) (xs:List D) (i:Nat) (d:D),xs[i]?=some d→(jB n xs)[i]?=some (.tup [.int ((n+i:Nat):Int),d])
 | _,[],i,d,h=>by simp at h
 | n,x::xs,0,d,h=>by simp at h;subst h;rfl
 | n,x::xs,i+1,d,h=>by
  have:=yK (n+1) xs i d (by simpa using h)
  rw [jB,List.getElem?_cons_succ,this]
  congr 3
  have:n+1+i=n+(i+1):=by omega
  rw [this]
section
variable {X:Cx}{Wx:WX}{e tg:Expr}{me:bJ D}{pos p:Pos}
theorem YZ {W:Wd}{K:Frag}{B H:Hp}{a:Addr}{vs:List V}{ds:List D}{strict:Bool}(hp:SqL K B a vs) (r:DvL K B vs ds):oV strict W K B H (Itl K a) ds:=by
 refine ⟨fun H=>SqL K H a vs,YAt vs,by rw [←r.len];exact walk_list,fun B' H' hs k hx _=>k.l (hs.l hp),fun i B' H' x H2 s hs k w hi y=> ?_⟩
 obtain ⟨rfl,hx⟩:=y
 obtain ⟨d,e,q⟩:=r.get hx
 exact ⟨B',d,Gr.refl k,w,e,q.mono hs⟩
theorem JV {W:Wd}{K:Frag}{B H:Hp}{a:Addr}{vs:List V}{ds:List D}{strict:Bool}(hp:SqL K B a vs) (r:DvL K B vs ds):oV strict W K B H (Ite K a) (jB 0 ds):=by
 refine ⟨fun H=>SqL K H a vs,_,by rw [yG,←r.len];exact walk_enum,fun B' H' hs k hx _=>k.l (hs.l hp),fun i B' H' x H2 s hs k w hi y=> ?_⟩
 obtain ⟨T,x,y,rfl,hn,rfl,ex,ey⟩:=y
 cases ex
 obtain ⟨d,e,q⟩:=r.get ey
 refine ⟨_,.tup [.int ((i:Nat):Int),d],Gr.new k w hn,w.nw k hn,?_,?_⟩
 ·have:=yK 0 ds i d e
  rw [Nat.zero_add] at this
  exact this
 ·exact .tup upd_same (.cons (.int _) (.cons (q.mono (hs.trans (bh (cA k hn)))) .nil))
def Wn (me:bJ D):bJ (List D):=fun ls=>bnd (me ls) Em
theorem abV (he:SE G X Wx e me) {strict:Bool}:SI G X Wx strict tg e (Wn me):=by
 obtain ⟨t,pt,ht⟩:=he.ex
 refine ⟨_,pi_list pt,fun W H0 σ B H ls s R k w sm h=> ?_⟩
 refine ht W H0 σ B H ls s _ k w sm ?_
 unfold Wn at h
 cases e1:me ls s with
 | stuck=>rw [aO e1] at h;exact (show False from h).elim
 | exc C fs s'=>
  rw [aC e1] at h
  exact h
 | ok d s1=>
  rw [aP e1] at h
  intro v B1 H1 g1 w1 r1
  rcases GX d s1 with ⟨xs,e2⟩ | e2
  ·rw [e2] at h
   obtain ⟨_,q,vs,rfl,hq,rr⟩:=r1.Em e2
   exact ⟨q,rfl,⟨_,g1.kn.l hq⟩,h _ B1 H1 g1 w1 (YZ hq rr)⟩
  ·rw [e2] at h
   exact (show False from h).elim
def Wt (me:bJ D):bJ (List D):=fun ls=>bnd (me ls) fun d=>bnd (Em d) fun xs=>ret (jB 0 xs)
theorem Zj {elts:List Expr}{kk:Nat}{tpos:Pos}{strict:Bool}(hg:Gl X "enumerate") (hm:X.mg "enumerate" = none) (he:SE G X Wx e me) (hs:starEach [e] X.env=[(false,eval e X.env)]:=by rfl):SI G X Wx strict (.Tuple elts kk tpos) (.Call (.Name "enumerate" p) [e] [] pos) (Wt me):=by
 obtain ⟨t,pt,ht⟩:=he.ex
 refine ⟨_,pi_enum hg hm (pa_cons pt pa_nil hs) hs,fun W H0 σ B H ls s R k w sm h=> ?_⟩
 refine ht W H0 σ B H ls s _ k w sm ?_
 unfold Wt at h
 cases e1:me ls s with
 | stuck=>rw [aO e1] at h;exact (show False from h).elim
 | exc C fs s'=>
  rw [aC e1] at h
  exact h
 | ok d s1=>
  rw [aP e1] at h
  intro v B1 H1 g1 w1 r1
  rcases GX d s1 with ⟨xs,e2⟩ | e2
  ·rw [aP e2] at h
   obtain ⟨_,q,vs,rfl,hq,rr⟩:=r1.Em e2
   exact ⟨q,_,rfl,g1.kn.l hq,h _ B1 H1 g1 w1 (JV hq rr)⟩
  ·rw [aO e2] at h
   exact (show False from h).elim
theorem DvL.set {K:Frag}{H:Hp}{v:V}{d:D}(h:Dv K H v d):∀{vs:List V}{ds:List D}(j:Nat),DvL K H vs ds→DvL K H (vs.set j v) (ds.set j d)
 | _,_,_,.nil=> .nil
 | _,_,0,.cons _ r=> .cons h r
 | _,_,j+1,.cons a r=> .cons a (DvL.set h j r)
def Rb (i:Nat) (ls:List Sl) (ds:List D) (d k:D):M Fl:=match k with
 | .int k=>(match ixN ds.length k with
  | some j=>ret (.nx (ls.set i (.ow (ds.set j d))))
  | none=>stk)
 | _=>stk
def zQ (i:Nat) (me mi:bJ D):MS:=fun ls=>Mw i ls fun ds=>bnd (me ls) fun d=>bnd (mi ls) fun k=>Rb i ls ds d k
theorem Ot {i:Nat}{x:Str}{ix:Expr}{mi:bJ D}{p1 p2:Pos}(he:SE G X Wx e me) (hx:SE G X Wx ix mi) (hN:X.N[i]?=some x:=by rfl) (hv:Vis X.env.scope x:=by first | exact Or.inl rfl | exact Or.inr (Or.inl rfl) | exact Or.inr (Or.inr rfl)) (hd:(x==("__debug__" : Str))=false:=by decide)
  (hcd:(x==("__classdict__" : Str))=false:=by decide)
  (ha:∀v,assign (.Subscript (.Name x p1) ix p2) X.env v=(do
   let ov ←holding [v] (eval (.Name x p1) X.env)
   let iv ←holding [v,ov] (eval ix X.env)
   standAt p2
   holding [v,ov,iv] (setItem ov iv v)
   release [v,ov,iv] []):=by intro _;rfl)
  (hs:swapsWithSole [.Subscript (.Name x p1) ix p2] e pos.line X.env=pure false:=by rfl) (hw:swappedStores [.Subscript (.Name x p1) ix p2] e X.env=pure none:=by rfl)
  (h1:(assignEach [.Subscript (.Name x p1) ix p2] X.env).map (·.2)=[assign (.Subscript (.Name x p1) ix p2) X.env]:=by rfl) :
  SS G X Wx (.Assign [.Subscript (.Name x p1) ix p2] e pos) (zQ i me mi):=by
 obtain ⟨t,pt,ht⟩:=he.ex
 obtain ⟨u,pu,hu⟩:=hx.ex
 refine ⟨_,ps_asg pt (pg_sub (pe_var hN hv hd hcd) pu set_list ha) hs hw h1,fun W B0 H0 σ B H ls s D g w sm h=> ?_⟩
 obtain ⟨ds,ei,h⟩:=Mg h
 obtain ⟨ov,e1,q,vs,rfl,nv,h0,hp,hb,r⟩:=sm.sl i _ ei
 refine ht W H0 σ B H ls s _ g.kn w sm (h.bind g fun d s1 v B1 H1 g1 g2 w1 r1 h1=> ?_)
 refine ⟨_,e1,?_⟩
 refine hu W H0 σ B1 H1 ls s1 _ g1.kn w1 (sm.grow g1) (h1.bind g2 fun k s2 kv B2 H2 g3 g4 w2 r2 h2=> ?_)
 unfold Rb at h2
 split at h2
 ·rename_i k
  cases r2
  cases e2:ixN ds.length k with
  | none=>rw [e2] at h2;exact (show False from h2).elim
  | some j=>
   rw [e2] at h2
   have g5:=g1.trans g3
   have hp2:=g5.hh q _ nv (Nt.none hb) hp
   have hb2:B2 q=none:=by rw [g5.nw q _ hp rfl];exact hb
   have el:=r.len
   exact ⟨q,vs,k,j,rfl,rfl,hp2,by rw [el];exact e2,h2 σ B2 _ (g4.chg nv h0 hb2) (w2.chg nv hb2 hp2) ((sm.grow g5).chg ei e1 nv h0 hb2 (DvL.set (r1.mono g3.bb) j (r.mono g5.bb)))⟩
 ·exact (show False from h2).elim
end
variable {G:Gd}{T:List NdefX.NTab}
def cW (m:bJ D):MS:=fun ls=>bnd (m ls) fun d=>ret (.rt d)
def fJ:MS:=fun ls=>ret (.nx ls)
theorem uF (N:List Str) (sc:Scope) {scope:Scope}{own:List (Str×Nat)}(h:BlkOk N sc scope own):BlkOk N sc scope own:=h
structure Cal (P:Program) (w:World) (K:Frag) (mg:Str→Option Value) (base:Heap) (T:List NdefX.NTab) (x:Str) (k n:Nat) (m:List D→M D):Prop where
 ex:∃(f:Addr) (fd:FuncData) (ps:List Str),FnG P w K mg base k f fd ps (Km K T n m)∧mg x=some (.ref f)∧keepIn K (.ref f)=true∧Binds K fd ps []
theorem Cal.imp {P:Program}{w:World}{K:Frag}{mg:Str→Option Value}{base:Heap}{x:Str}{k n:Nat}{m m':List D→M D}(C:Cal P w K mg base T x k n m) (h:∀ds s,m' ds s ≠ .stuck→m ds s=m' ds s):Cal P w K mg base T x k n m':=by
 obtain ⟨f,fd,ps,F,h1,h2,h3⟩:=C.ex
 exact ⟨f,fd,ps,Yr F h,h1,h2,h3⟩
structure DefF (K:Frag) (mg:Str→Option Value) (x:Str) (st:Stmt):Prop where
 ex:∃(f:Addr) (fd:FuncData),FunD K x x (defArgs st) (defBody st) (defScope st) [] [] f fd∧mg x=some (.ref f)
section
variable {P:Program}{w:World}{K:Frag}{mg:Str→Option Value}{base:Heap}{x:Str}{st:Stmt}{k:Nat}{N ps:List Str}{mb:MS}
theorem DefF.cal (F:DefF K mg x st) (S:FnScope N ps (defScope st)) (hl:ps.length≤N.length)
  (hb:∀(kV doc pm:Value) (an:Option Addr) (cdv ct:Value) (us:List Value),us.length=ps.length→bindArgs (fnOf x x (defArgs st) (defBody st) (defScope st) .none kV doc pm an cdv ct) ⟨us,[]⟩=pure (ps.zip us))
  (body:∀(f:Addr) (cdv:Value) (A:Around) (outer:List Env) (s:Shared) (H:Hp) (E:XK),RoomG k (A.deeper (envOfC x (defScope st) s.heap.objs.size f cdv))→SSs (G0 T w) (cxOf (L2.CX P w) P w K mg base N x (defScope st) f cdv A outer s H E) (EW E) (defBody st) mb) :
  Cal P w K mg base T x (k+1) ps.length (dG N.length mb):=by
 obtain ⟨f,fd,D,g⟩:=F.ex
 exact ⟨f,fd,ps,aa7 D S hl (body f),g,D.kp,D.bindsN hb⟩
end
section
variable {X:Cx}{Wx:WX}{e:Expr}{es:List Expr}{ms:bJ (List D)}{pos p:Pos}{k n:Nat}{x:Str}{m:List D→M D}
theorem aM (C:Cal X.prog X.w X.K X.mg X.base G.tb x k n m) (hr:RoomG k X.A) (hg:Gl X x) (tk:Takes X Wx) (ha:SA G X Wx (e::es) ms) (hdb:(x==("__debug__" : Str))=false:=by decide) (he:starEach (e::es) X.env=(false,eval e X.env)::starEach es X.env:=by rfl) (hpl:(backTo pos (starEach es X.env)).any (·.1)=false:=by rfl) :
  SE G X Wx (.Call (.Name x p) (e::es) [] pos) (fun ls=>bnd (ms ls) (aQ n m)):=by
 obtain ⟨f,fd,ps,F,h1,h2,h3⟩:=C.ex
 exact Xo F hr hg h1 h2 h3 tk ha hdb he hpl
end
structure ExC (P:Program) (w:World) (K:Frag) (mg:Str→Option Value) (base:Heap) (x:Str) (C:Addr) (ns ks:List Str):Prop where
 ex:∃(fI:Addr) (fd:FuncData) (ps:List Str),(∃B newId initId bmB,XC K C B newId initId bmB)∧findIn K (.ref C) "__init__" = some (some (.ref fI))∧typeIn K (.ref fI)=some (.type "function")∧FnOk P w K mg base (L2.CX P w) 1 fI fd ps (spI C ns) ∧
  (∀(s:Shared) (us:List Value),us.length=ns.length+1→BindsTo s fd ⟨us,[]⟩ (ps.zip us))∧(∀(s:Shared) (a:Addr) (us:List Value),us.length=ns.length→BindsTo s fd ⟨[.ref a],ks.zip us⟩ (ps.zip (.ref a::us)))
 gm:mg x=some (.ref C)
 kp:keepIn K (.ref C)=true
variable {T:List NdefX.NTab}
def JN (K:Frag) (T:List NdefX.NTab) (Wx:WX) (n:Nat) (m:List D→M D) (t:TA):TE:=fun σ H Q=>t σ H fun vs H1=>Km K T n m vs H1 Q (fun c d H'=>Wx c d σ H')
section
variable {X:Cx}{Wx:WX}{e:Expr}{es:List Expr}{pos p:Pos}{k n:Nat}{x:Str}{m:List D→M D}{t:TA}
theorem K8 (C:Cal X.prog X.w X.K X.mg X.base T x k n m) (hr:RoomG k X.A) (hg:Gl X x) (tk:Takes X Wx) (ha:PA X (e::es) t) (hdb:(x==("__debug__" : Str))=false:=by decide) (he:starEach (e::es) X.env=(false,eval e X.env)::starEach es X.env:=by rfl) (hpl:(backTo pos (starEach es X.env)).any (·.1)=false:=by rfl) :
  PE X (.Call (.Name x p) (e::es) [] pos) (JN X.K T Wx n m t):=by
 obtain ⟨f,fd,ps,F,h1,h2,h3⟩:=C.ex
 refine ⟨fun pins s σ H Q I h=> ?_⟩
 refine wpAny_Call_Name_kw (ld_glob I hg h1 ?_ hdb)
 refine callWith_K (h₀:=X.base) I.ok.mod.kin h2 (thn (ha.run pos pins s σ H _ I h) fun us s1 ⟨vs,H1,I1,r,q⟩=>⟨I1.kIn,?_⟩) he hpl
 exact Og F hr h3 tk I1 r q
end
variable {G:Gd}{T:List NdefX.NTab}
def uW:MS:=(aR (fun ls=>bnd ((m2 iT (m2 iT (m2 wI (fun ls=>bnd ((ao (m2 mF (m2 mF (au 0) (m2 iT (fun _=>ret (.int 1)) (m2 mF (fun _=>ret (.int 2)) (au 1)))) (fun _=>ret (.int 48271))) (fun _=>ret [])) ls) gR) (fun _=>ret (.int 2147483647))) (m2 mF (m2 mF (fun _=>ret (.int 7919)) (au 1)) (au 1))) (m2 mF (fun _=>ret (.int 104729)) (au 1))) ls) fun d=>ret (.nx (ls.set 2 (.va d)))) (cW (m2 R4 (m2 wI (fun ls=>bnd ((ao (m2 mF (au 2) (fun _=>ret (.int 69621))) (fun _=>ret [])) ls) gR) (fun _=>ret (.int 2147483629))) (fun _=>ret (.int 7)))))
def Dq:List D→M D:=dG 3 uW
def mix (c n:Int):Int:=((c*(1+2*n)*48271)%2147483647+7919*n*n+104729*n)*69621%2147483629/7
def Gv (ds:List D):M D:=match ds with
 | [.int c,.int n]=>if 0≤n∧n<1152921504606846976 then ret (.int (mix c n)) else stk
 | _=>stk
theorem pN {i j:Int}(h:(-(2^64)<i∧i<2^64)∨(-(2^64)<j∧j<2^64)):mF (.int i) (.int j)=ret (.int (i*j)):=by
 exact if_pos h
theorem aaC (ds:List D) (s:DS) (h:Gv ds s ≠ .stuck):Dq ds s=Gv ds s:=by
 unfold Gv at h ⊢
 split at h
 ·rename_i c n
  split at h
  ·rename_i hn
   rw [if_pos hn]
   have e1:mF (.int 2) (.int n)=ret (.int (2*n)):=pN (.inl (by omega))
   have e2:mF (.int c) (.int (1+2*n))=ret (.int (c*(1+2*n))):=pN (.inr (by omega))
   have e3:∀x,mF (.int x) (.int 48271)=ret (.int (x*48271)):=fun x=>pN (.inr (by omega))
   have e4:mF (.int 7919) (.int n)=ret (.int (7919*n)):=pN (.inl (by omega))
   have e5:mF (.int (7919*n)) (.int n)=ret (.int (7919*n*n)):=pN (.inr (by omega))
   have e6:mF (.int 104729) (.int n)=ret (.int (104729*n)):=pN (.inl (by omega))
   have e7:∀x,mF (.int x) (.int 69621)=ret (.int (x*69621)):=fun x=>pN (.inr (by omega))
   have e8:∀x,wI (.int x) (.int 2147483647)=ret (.int (x%2147483647)):=fun x=>rfl
   have e9:∀x,wI (.int x) (.int 2147483629)=ret (.int (x%2147483629)):=fun x=>rfl
   have ea:∀x,R4 (.int x) (.int 7)=ret (.int (x/7)):=fun x=>rfl
   have eb:∀x y,iT (.int x) (.int y)=ret (.int (x+y)):=fun x y=>rfl
   show bnd (uW _) endF s=_
   simp only [uW,argL,aR,cW,m2,ao,au,Af,List.map_cons,List.map_nil,List.cons_append,List.nil_append,List.length_cons,List.length_nil,List.getElem?_cons_zero,List.getElem?_cons_succ,gR,e1,e2,e3,e4,e5,e6,e7,e8,e9,ea,eb,Nat.reduceAdd,Nat.reduceSub,List.replicate,List.set,endF]
   rfl
  ·exact absurd rfl h
 ·exact absurd rfl h
abbrev ab4:List V→Hp→VK→Prop:=fun xs H Q=>(∃i,xs=[V.int i]∧Q (V.int i) H)∨∃k,xs=[V.bl k]∧Q (V.int (if k=true then 1 else 0)) H
abbrev rLn (K:Frag):List V→Hp→VK→Prop:=fun xs H Q=>∃x n,xs=[x]∧LenV K x H n∧Q (V.int ↑n) H
abbrev rPl:R2:=rI0 fun i j=>V.int (i+j)
abbrev rMd:R2:=rI (fun x j=>0<j) fun i j=>V.int (i%j)
abbrev rDv:R2:=rI CDiv fun i j=>V.int (i/j)
abbrev rMu:R2:=rI CMul fun i j=>V.int (i*j)
abbrev Wz (x:Str):TE:=tDGet (tVar 0) (tC (V.str x))
abbrev Ss (i:Nat):TE:=tCB ab4 (tCons (tVar i) tNil)
def acO (K:Frag) (T:List NdefX.NTab) (Wx:WX):TS:=
 tSeq (tAsg (Wz "spot") (gName 2))
  (tSeq (sDPut (tVar 0) (tC (V.str "spot")) (tOp rPl (tVar 2) (tC (V.int 1))))
   (tSeq
    (tIfS (tTest (tOp (rNeD K) (Wz "great") (tLst tNil)))
     (tSeq (tAsg (Wz "great") (gName 3))
      (tSeq (tAsg (tOp rMd (Ss 2) (tCB (rLn K) (tCons (tVar 3) tNil))) (gName 4))
       (tSeq (tAsg (tOp (rIxL K) (tVar 3) (tVar 4)) (gName 5))
        (tIfS (tB (tGt (tVar 5) (tC (V.int 0)))) (tSeq (tAsg (tOp rDv (tVar 5) (tVar 1)) (gSub (tVar 3) (tVar 4) rSetL)) (tRet (tOp rMd (Ss 5) (tVar 1)))) tNext)))) tNext)
    (tSeq (tAsg (Wz "cells") (gName 3))
     (tRet (tOp rMd (tCB ab4 (tCons (JN K T Wx 2 Gv (tCons (JN K T Wx 2 Gv (tCons (tOp rPl (tOp (rIxL K) (tVar 3) (tOp rMd (Ss 2) (tC (V.int 64)))) (tOp rMu (tC (V.int 31)) (tOp rDv (tVar 2) (tC (V.int 64))))) (tCons (tVar 2) tNil)))
      (tCons (tOp rPl (tVar 2) (tC (V.int 7))) tNil))) tNil)) (tVar 1))))))
def Ux (s:DS):Nat:=(s.spot%(s.great.length:Int)).toNat
def YK (s:DS):Int:=s.great.getD (Ux s) 0
def smR (s:DS):Int:=mix (mix (s.cells.getD (s.spot%64).toNat 0+31*(s.spot/64)) s.spot) (s.spot+7)
def Eb (l:Int) (s:DS):Res D:=
 if s.great≠[]∧0<YK s then .ok (.int (YK s%l)) { s with spot:=s.spot+1,great:=s.great.set (Ux s) (YK s/l)} else .ok (.int (smR s%l)) { s with spot:=s.spot+1}
def dU (ds:List D):M D:=fun s=>match ds with
 | [.raw (.ref a),.int l]=>if s.at_=some a∧0<l∧l<1073741824∧0≤s.spot∧s.spot<1125899906842624∧s.cells.length=64∧s.great.length≤1000 then Eb l s else .stuck
 | _=> .stuck
theorem Gr.gq {W:Wd}{B0 H0 B H:Hp}{p:Addr}{o:HO}(g:Gr W B0 H0 B H) (v:W.gq p):Gr W B0 H0 B (upd H p o):=by
 refine ⟨fun a u z=>⟨(g.kn a u z).1,?_⟩,g.bb,fun a u n nt z=> ?_,g.nw⟩
 ·exact (g.kn a u z).2.off fun e=>(g.kn a u z).1 (by rw [e];exact v)
 ·rw [upd_ne (a:=p) (b:=a) (fun e=>n (by rw [e];exact v))]
  exact g.hx a u n nt z
theorem Wd.ok.X8 {W:Wd}{s s':DS}{B H H':Hp}(w:W.ok s B H) (ha:s'.at_=s.at_) (hd:∀p,W.dr=some p→DrwAt p.1 p.2.1 p.2.2 s' H') (ht:NdefX.TabsN W.tb H') (hv:∀p u,¬W.gq p→H p=some u→H' p=some u) (ho:s'.objs=s.objs:=by rfl):W.ok s' B H':=⟨hd,ht,ha.trans w.at_,w.st_.up hv ho⟩
theorem Ph {W:Wd}{s:DS}{B H:Hp}{p:Addr×Addr×Addr}{x:Addr}{o:HO}(w:W.ok s B H) (e:W.dr=some p) (hx:x=p.1∨x=p.2.1∨x=p.2.2):NdefX.TabsN W.tb (upd H x o):=fun t ht=>by
 obtain ⟨ps,h1,h2,h3⟩:=w.tb t ht
 have d:=w.dr p e
 have ne:∀{b:Addr}{u:HO},H b=some u→(∀kvs,u ≠ .dK kvs)→(∀xs,u ≠ .lst xs)→b≠x:=fun {b u} hb n1 n2 z=>by
  subst z
  rcases hx with z | z | z
  ·rw [z,d.m] at hb;cases hb;exact n1 _ rfl
  ·rw [z,d.c] at hb;cases hb;exact n2 _ rfl
  ·rw [z,d.g] at hb;cases hb;exact n2 _ rfl
 refine ⟨ps,?_,h2,fun pos cv hc=> ?_⟩
 ·rw [upd_ne (ne h1 (fun _ z=>by cases z) (fun _ z=>by cases z))]
  exact h1
 ·obtain ⟨c,e1,e2⟩:=h3 pos cv hc
  refine ⟨c,e1,?_⟩
  rw [upd_ne (ne e2 (fun _ z=>by unfold LamX.CodeO at z;cases z) (fun _ z=>by unfold LamX.CodeO at z;cases z))]
  exact e2
theorem Sh {K:Frag}{H:Hp}:∀ns:List Int,DpAll K H (ns.map V.int) (ns.map PyData.int)
 | []=> .nil
 | n::ns=> .cons (.int n) (Sh ns)
theorem depth_ints:∀ns:List Int,PyData.depthAll (ns.map PyData.int)=0
 | []=>rfl
 | n::ns=>by rw [List.map_cons,PyData.depthAll,depth_ints ns,PyData.depth];rfl
theorem Yo (ns:List Int):PyData.eqv (.list (ns.map PyData.int)) (.list [])=ns.isEmpty:=by
 cases ns<;>rfl
theorem atI_nat {α:Type}{xs:List α}{i:Int}{x:α}(h0:0≤i) (h:xs[i.toNat]?=some x):atI xs i=some x:=by
 have hl:=(List.getElem?_eq_some_iff.mp h).1
 unfold atI ixN
 rw [if_pos h0,if_pos (by omega)]
 exact h
variable {G:Gd}{T:List NdefX.NTab}
section
variable {x y z:V}
abbrev Fy (x y z:V):List (Key×V):=[(sH,x),(lU,y),(tE,z)]
theorem val_c:valV (Fy x y z) sH=some x:=by simp [valV,Fy,List.find?_cons]
theorem aah:valV (Fy x y z) lU=some y:=by
 have h:¬sH=lU:=by decide
 simp [valV,Fy,List.find?_cons,h]
theorem ac1:valV (Fy x y z) tE=some z:=by
 have h:¬sH=tE:=by decide
 have h2:¬lU=tE:=by decide
 simp [valV,Fy,List.find?_cons,h,h2]
theorem acN {u:V}:putK (Fy x y z) tE u=Fy x y u:=by
 have h:¬sH=tE:=by decide
 have h2:¬lU=tE:=by decide
 simp [putK,Fy,h,h2]
end
theorem V7:∀ns:List Int,PyData.canLay0 (.list (ns.map PyData.int))=true:=fun ns=>by
 induction ns with
 | nil=>rfl
 | cons n ns ih=>
  first
   | exact ih
   | simpa [PyData.canLay0,PyData.canLay0All] using ih
theorem shaped_ints (ns:List Int):SeqAt.shaped (.list (ns.map PyData.int))=true:=by
 unfold SeqAt.shaped
 rw [V7,PyData.depth,depth_ints]
 rfl
theorem Rq {K:Frag}{W:Wd}{B H:Hp}{s:DS}{c n:Int}{Q:VK}{E:XK}(hn:0≤n∧n<1152921504606846976) (et:W.tb=T∧W.fr=K) (kn:Kn W B H) (w:W.ok s B H) (h:∀B' H',Gr W B H B' H'→W.ok s B' H'→Q (.int (mix c n)) H'):Km K T 2 Gv [.int c,.int n] H Q E:=by
 refine ⟨rfl,W,B,s,[.int c,.int n],et,kn,w,.cons (.int c) (.cons (.int n) .nil),?_⟩
 have e:Gv [.int c,.int n] s = .ok (.int (mix c n)) s:=by
  unfold Gv
  exact congrFun (if_pos hn) s
 rw [e]
 intro v B' H' g w r
 cases r
 exact h B' H' g w
theorem Uj {K:Frag}{Wx:WX}{vs:List V}{H:Hp}{Q:VK}{E:XK}{D:Ends}(hD:D.rt=Q) (h:Km K T 2 dU vs H Q E):acO K T Wx D (L2.start ["m","limit","n","lot","here","cell"] vs) H:=by
 subst hD
 obtain ⟨hlen,W,B,s,ds,et,kn,wk,r,a⟩:=h
 unfold dU at a
 split at a
 case h_2=>exact (show False from a).elim
 rename_i am l
 split at a
 case isFalse=>exact (show False from a).elim
 rename_i hc
 obtain ⟨hat,l0,l1,n0,n1,hcl,hgl⟩:=hc
 cases r with
 | cons ra r=>
 cases ra
 cases r with
 | cons rb r=>
 cases rb
 cases r
 obtain ⟨p,hp⟩:∃p,W.dr=some p:=by
  have e:=wk.at_
  rw [hat] at e
  cases q:W.dr with
  | none=>rw [q] at e;cases e
  | some p=>exact ⟨p,rfl⟩
 have ep:p.1=am:=by
  have e:=wk.at_
  rw [hat,hp] at e
  exact (Option.some.inj e).symm
 obtain ⟨am',ac,ag⟩:=p
 cases ep
 have d:=wk.dr _ hp
 have vm:W.gq am':= .inl ⟨_,hp,.inl rfl⟩
 have vg:W.gq ag:= .inl ⟨_,hp,.inr (.inr rfl)⟩
 have nmc:ac≠am':=fun z=>by
  have:=d.c
  rw [z,d.m] at this
  cases this
 have nmg:ag≠am':=fun z=>by
  have:=d.g
  rw [z,d.m] at this
  cases this
 refine ⟨_,rfl,am',.int s.spot,rfl,.inl ⟨_,tE,.inl d.m,rfl,ac1.symm⟩,?_⟩
 refine ⟨_,rfl,s.spot,1,rfl,rfl,_,rfl,am',_,rfl,.inl ⟨_,tE,d.m,rfl,by show 3<sizeLine;rw [sizeLine_eq];omega,rfl⟩,?_⟩
 rw [acN]
 generalize hH1:upd H am' (.dK (Fy (.ref ac) (.ref ag) (.int (s.spot+1))))=H1
 have m1:H1 am'=some (.dK (Fy (.ref ac) (.ref ag) (.int (s.spot+1)))):=by rw [←hH1,upd_same]
 have c1:H1 ac=some (.lst (s.cells.map V.int)):=by rw [←hH1,upd_ne nmc];exact d.c
 have g1:H1 ag=some (.lst (s.great.map V.int)):=by rw [←hH1,upd_ne nmg];exact d.g
 have gr1:Gr W B H B H1:=by
  rw [←hH1]
  exact (Gr.refl kn).gq vm
 have w1:W.ok { s with spot:=s.spot+1} B H1:=by
  refine wk.X8 rfl (fun q e=> ?_) (by rw [←hH1];exact Ph wk hp (.inl rfl)) (by rw [←hH1];exact Xw vm)
  rw [hp] at e
  cases e
  exact ⟨m1,c1,g1,d.ne⟩
 refine ⟨_,rfl,am',.ref ag,rfl,.inl ⟨_,lU,.inl m1,rfl,aah.symm⟩,by show 0≤sizeLine;omega,fun q hq=> ?_⟩
 generalize hH2:upd H1 q (.lst [])=H2
 have s12:Sub H1 H2:=by rw [←hH2];exact bh hq
 have m2:=s12 _ _ m1
 have c2:=s12 _ _ c1
 have g2:=s12 _ _ g1
 have w2:=w1.st s12
 have gr2:Gr W B H B H2:=by
  refine gr1.trans ?_
  rw [←hH2]
  exact Gr.lay gr1.kn hq
 refine ⟨.list (s.great.map PyData.int),.list [],.lst (SqL.of g2) (Sh _),.lst (SqL.of (by rw [←hH2,upd_same])) .nil,shaped_ints _,rfl,_,rfl,?_⟩
 rw [Yo]
 have small:∀(σ:L2.St),σ[0]?=some (some (.ref am'))→σ[1]?=some (some (.int l))→σ[2]?=some (some (.int s.spot))→3<σ.length→Ans W K B H (.ok (.int (smR s%l)) { s with spot:=s.spot+1}) D.rt E →
   (tSeq (tAsg (Wz "cells") (gName 3)) (tRet (tOp rMd (tCB ab4 (tCons (JN K T Wx 2 Gv (tCons (JN K T Wx 2 Gv (tCons (tOp rPl (tOp (rIxL K) (tVar 3) (tOp rMd (Ss 2) (tC (V.int 64)))) (tOp rMu (tC (V.int 31)) (tOp rDv (tVar 2) (tC (V.int 64))))) (tCons (tVar 2) tNil)))
      (tCons (tOp rPl (tVar 2) (tC (V.int 7))) tNil))) tNil)) (tVar 1)))) D σ H2:=by
  intro σ h0 h1 h2 hl a
  have t1:(σ.set 3 (some (V.ref ac)))[1]?=some (some (.int l)):=by rw [List.getElem?_set_ne (by decide)];exact h1
  have t2:(σ.set 3 (some (V.ref ac)))[2]?=some (some (.int s.spot)):=by rw [List.getElem?_set_ne (by decide)];exact h2
  have t3:(σ.set 3 (some (V.ref ac)))[3]?=some (some (.ref ac)):=by rw [List.getElem?_set_self hl]
  refine ⟨_,h0,am',.ref ac,rfl,.inl ⟨_,sH,.inl m2,rfl,val_c.symm⟩,?_⟩
  have hm:0≤s.spot%64∧s.spot%64<64:=⟨Int.emod_nonneg _ (by decide),Int.emod_lt_of_pos _ (by decide)⟩
  have hcx:(s.cells.map V.int)[(s.spot%64).toNat]?=some (V.int (s.cells.getD (s.spot%64).toNat 0)):=by
   rw [List.getElem?_map,List.getD_eq_getElem?_getD]
   have:(s.spot%64).toNat<s.cells.length:=by omega
   rw [List.getElem?_eq_getElem this]
   rfl
  refine ⟨_,t3,_,t2,.inl ⟨_,rfl,s.spot,64,rfl,rfl,(show (0:Int)<64 by decide),ac,_,_,_,rfl,rfl,SqL.of c2,atI_nat hm.1 hcx,?_⟩⟩
  refine ⟨_,t2,s.spot,64,rfl,rfl,⟨by decide,by decide⟩,31,_,rfl,rfl,.inl (by decide),_,_,rfl,rfl,_,t2,?_⟩
  refine Rq (W:=W) (B:=B) (s:={ s with spot:=s.spot+1}) ⟨n0,by omega⟩ et gr2.kn w2 fun B3 H3 gr3 w3=> ?_
  refine ⟨_,t2,s.spot,7,rfl,rfl,?_⟩
  refine Rq (W:=W) (B:=B3) (s:={ s with spot:=s.spot+1}) ⟨by omega,by omega⟩ et gr3.kn w3 fun B4 H4 gr4 w4=> ?_
  refine .inl ⟨_,rfl,_,t1,_,l,rfl,rfl,l0,?_⟩
  exact a _ B4 H4 (gr2.trans (gr3.trans gr4)) w4 (.int _)
 by_cases he:s.great=[]
 ·have:(!s.great.isEmpty)=false:=by rw [he];rfl
  rw [this]
  dsimp only
  rw [if_neg (by decide)]
  refine small _ rfl rfl rfl (by show 3<6;decide) ?_
  unfold Eb at a
  rw [if_neg (fun z=>z.1 he)] at a
  exact a
 ·have hne:(!s.great.isEmpty)=true:=by
   cases q:s.great with
   | nil=>exact absurd q he
   | cons _ _=>rfl
  rw [hne]
  dsimp only
  rw [if_pos rfl]
  have hpos:(0:Int)<(s.great.length:Int):=by
   cases q:s.great with
   | nil=>exact absurd q he
   | cons _ _=>simp
  refine ⟨_,rfl,am',.ref ag,rfl,.inl ⟨_,lU,.inl m2,rfl,aah.symm⟩,?_⟩
  refine ⟨_,rfl,.inl ⟨_,rfl,_,rfl,.ref ag,(s.great.map V.int).length,rfl,.inl ⟨_,SqL.of g2,rfl⟩,s.spot,_,rfl,rfl,by rw [List.length_map];exact hpos,?_⟩⟩
  rw [List.length_map]
  have hm:0≤s.spot%(s.great.length:Int)∧s.spot%(s.great.length:Int)<s.great.length:=⟨Int.emod_nonneg _ (by omega),Int.emod_lt_of_pos _ hpos⟩
  have hlt:Ux s<s.great.length:=by unfold Ux;omega
  have hgx:(s.great.map V.int)[(s.spot%(s.great.length:Int)).toNat]?=some (V.int (YK s)):=by
   rw [List.getElem?_map]
   unfold YK
   rw [List.getD_eq_getElem?_getD]
   show Option.map V.int s.great[Ux s]?=_
   rw [List.getElem?_eq_getElem hlt]
   rfl
  refine ⟨_,rfl,_,rfl,ag,_,_,_,rfl,rfl,SqL.of g2,atI_nat hm.1 hgx,?_⟩
  refine ⟨_,rfl,YK s,0,rfl,rfl,_,rfl,?_⟩
  by_cases hp0:0<YK s
  ·dsimp only
   rw [if_pos (decide_eq_true hp0)]
   unfold Eb at a
   rw [if_pos ⟨he,hp0⟩] at a
   have hix:ixN (s.great.map V.int).length (s.spot%(s.great.length:Int))=some (Ux s):=by
    unfold ixN
    rw [if_pos hm.1,List.length_map,if_pos hm.2]
    rfl
   refine ⟨_,rfl,_,rfl,YK s,l,rfl,rfl,⟨l0,l1⟩,_,rfl,_,rfl,ag,_,_,_,rfl,rfl,g2,hix,?_⟩
   refine ⟨_,rfl,.inl ⟨_,rfl,_,rfl,YK s,l,rfl,rfl,l0,?_⟩⟩
   refine a _ B _ (gr2.gq vg) ?_ (.int _)
   refine w2.X8 rfl (fun q e=> ?_) (Ph w2 hp (.inr (.inr rfl))) (Xw vg)
   rw [hp] at e
   cases e
   refine ⟨?_,?_,?_,d.ne⟩
   ·rw [upd_ne (Ne.symm nmg)]
    exact m2
   ·rw [upd_ne d.ne]
    exact c2
   ·rw [upd_same,List.map_set]
  ·dsimp only
   rw [if_neg (by rw [decide_eq_false hp0];decide)]
   unfold Eb at a
   rw [if_neg (fun z=>hp0 z.2)] at a
   exact small _ rfl rfl rfl (by show 3<6;decide) a
variable {G:Gd}
def oA:MS:=(aR (fun ls=>bnd ((qK [2] (fun ls=>bnd ((ao (fun _=>ret (.int 64)) (fun _=>ret [])) ls) oJ) (gQ 2) (fun _=>ret true) (m2 iT (fun _=>ret (.int 17)) (au 2))) ls) fun ds=>ret (.nx (ls.set 1 (.ow ds)))) (aR (fun ls=>bnd ((Wt (au 0)) ls) fun ds=>fH (jY 2 (cG (gQ 2) (cG (gQ 3) lY))) (zQ 1 (m2 wI (fun ls=>bnd ((ao (m2 iT (m2 mF (m2 dJ (iU 1) (m2 wI (fun ls=>bnd ((ao (au 2) (fun _=>ret [])) ls) gR) (fun _=>ret (.int 64)))) (fun _=>ret (.int 48271))) (au 3)) (fun _=>ret [])) ls) gR) (fun _=>ret (.int 2147483647))) (m2 wI (fun ls=>bnd ((ao (au 2) (fun _=>ret [])) ls) gR) (fun _=>ret (.int 64)))) ds ls) (aR (fun ls=>bnd ((fun ls=>bnd ((ao (fun _=>ret (.int 1)) (ao (fun _=>ret (.int 64)) (fun _=>ret []))) ls) Jy) ls) fun ds=>fH (gQ 2) (zQ 1 (m2 wI (fun ls=>bnd ((ao (m2 iT (m2 dJ (iU 1) (au 2)) (m2 mF (m2 dJ (iU 1) (m2 uR (au 2) (fun _=>ret (.int 1)))) (fun _=>ret (.int 16807)))) (fun _=>ret [])) ls) gR) (fun _=>ret (.int 2147483647))) (au 2)) ds ls) (Lz 1))))
def pO:List D→M D:=dG 4 oA
def fb1:MS:=(zQ 1 (m2 wI (fun ls=>bnd ((ao (m2 iT (m2 mF (m2 dJ (iU 1) (m2 wI (fun ls=>bnd ((ao (au 2) (fun _=>ret [])) ls) gR) (fun _=>ret (.int 64)))) (fun _=>ret (.int 48271))) (au 3)) (fun _=>ret [])) ls) gR) (fun _=>ret (.int 2147483647))) (m2 wI (fun ls=>bnd ((ao (au 2) (fun _=>ret [])) ls) gR) (fun _=>ret (.int 64))))
def fb2:MS:=(zQ 1 (m2 wI (fun ls=>bnd ((ao (m2 iT (m2 dJ (iU 1) (au 2)) (m2 mF (m2 dJ (iU 1) (m2 uR (au 2) (fun _=>ret (.int 1)))) (fun _=>ret (.int 16807)))) (fun _=>ret [])) ls) gR) (fun _=>ret (.int 2147483647))) (au 2))
theorem Vr {cs:List Int}{i:Int}(h0:0≤i) (h1:i<cs.length):atI (cs.map D.int) i=some (.int (cs.getD i.toNat 0)):=by
 refine atI_nat h0 ?_
 have hl:i.toNat<cs.length:=by omega
 rw [List.getElem?_map,List.getElem?_eq_getElem hl,List.getD_eq_getElem?_getD,List.getElem?_eq_getElem hl]
 rfl
theorem XR {cs:List Int}{i:Int}(h0:0≤i) (h1:i<cs.length):ixN (cs.map D.int).length i=some i.toNat:=by
 unfold ixN
 rw [if_pos h0,List.length_map,if_pos h1]
theorem Hj {cs:List Int}{i:Int}(h0:0≤i) (h1:i<cs.length):dJ (.lst (cs.map D.int)) (.int i)=ret (.int (cs.getD i.toNat 0)):=by
 show oG (atI (cs.map D.int) i)=_
 rw [Vr h0 h1]
 rfl
theorem Ir {cs:List Int}{i v:Int}{ls:List Sl}(h0:0≤i) (h1:i<cs.length):Rb 1 ls (cs.map D.int) (.int v) (.int i)=ret (.nx (ls.set 1 (.ow ((cs.set i.toNat v).map D.int)))):=by
 unfold Rb
 simp only [XR h0 h1]
 rw [List.map_set]
def Sx (ls:List Sl):Prop:=∃(a x y:Sl) (cs:List Int),ls=[a,.ow (cs.map D.int),x,y]∧cs.length=64
theorem abA {a x y:Sl}{cs:List Int}{n c:Int}(hl:cs.length=64) (hn:0≤n):∃cs':List Int,cs'.length=64∧fb1 [a,.ow (cs.map D.int),.va (.int n),.va (.int c)]=ret (.nx [a,.ow (cs'.map D.int),.va (.int n),.va (.int c)]):=by
 have h0:0≤n%64:=Int.emod_nonneg _ (by decide)
 have h1:n%64<(cs.length:Int):=by rw [hl];exact Int.emod_lt_of_pos _ (by decide)
 have e3:∀x,mF (.int x) (.int 48271)=ret (.int (x*48271)):=fun x=>pN (.inr (by omega))
 have e8:∀x,wI (.int x) (.int 2147483647)=ret (.int (x%2147483647)):=fun x=>rfl
 have e9:∀x,wI (.int x) (.int 64)=ret (.int (x%64)):=fun x=>rfl
 have eb:∀x y,iT (.int x) (.int y)=ret (.int (x+y)):=fun x y=>rfl
 refine ⟨cs.set (n%64).toNat ((cs.getD (n%64).toNat 0*48271+c)%2147483647),by rw [List.length_set];exact hl,?_⟩
 simp only [fb1,zQ,Mw,m2,ao,au,iU,Af,List.getElem?_cons_zero,List.getElem?_cons_succ,gR,e3,e8,e9,eb,Hj h0 h1,Ir h0 h1,List.set]
theorem abR {a x y:Sl}{cs:List Int}{n:Int}(hl:cs.length=64) (hn:1≤n) (hm:n<64):∃cs':List Int,cs'.length=64∧fb2 [a,.ow (cs.map D.int),.va (.int n),y]=ret (.nx [a,.ow (cs'.map D.int),.va (.int n),y]):=by
 have h0:0≤n:=by omega
 have h1:n<(cs.length:Int):=by rw [hl];omega
 have h2:0≤n-1:=by omega
 have h3:n-1<(cs.length:Int):=by rw [hl];omega
 have e3:∀x,mF (.int x) (.int 16807)=ret (.int (x*16807)):=fun x=>pN (.inr (by omega))
 have e8:∀x,wI (.int x) (.int 2147483647)=ret (.int (x%2147483647)):=fun x=>rfl
 have eb:∀x y,iT (.int x) (.int y)=ret (.int (x+y)):=fun x y=>rfl
 have ec:∀x y,uR (.int x) (.int y)=ret (.int (x-y)):=fun x y=>rfl
 refine ⟨cs.set n.toNat ((cs.getD n.toNat 0+cs.getD (n-1).toNat 0*16807)%2147483647),by rw [List.length_set];exact hl,?_⟩
 simp only [fb2,zQ,Mw,m2,ao,au,iU,Af,List.getElem?_cons_zero,List.getElem?_cons_succ,gR,e3,e8,eb,ec,Hj h0 h1,Hj h2 h3,Ir h0 h1,List.set]
theorem loop1:∀(ns:List Int) (k:Nat) (ls:List Sl) (s:DS),Sx ls→∃ls',Sx ls'∧fH (jY 2 (cG (gQ 2) (cG (gQ 3) lY))) fb1 (jB k (ns.map D.int)) ls s = .ok (.nx ls') s
 | [],k,ls,s,h=>⟨ls,h,rfl⟩
 | n::ns,k,ls,s,h=>by
  obtain ⟨a,x,y,cs,rfl,hl⟩:=h
  obtain ⟨cs',hl',e⟩:=abA (a:=a) (x:=x) (y:=y) (n:=(k:Int)) (c:=n) hl (by omega)
  obtain ⟨ls',h2,e2⟩:=loop1 ns (k+1) [a,.ow (cs'.map D.int),.va (.int k),.va (.int n)] s ⟨_,_,_,cs',rfl,hl'⟩
  refine ⟨ls',h2,?_⟩
  show bnd (fb1 [a,.ow (cs.map D.int),.va (.int k),.va (.int n)]) _ s=_
  rw [e]
  exact e2
theorem aan:∀(l:List Int) (ls:List Sl) (s:DS),(∀n∈l,1≤n∧n<64)→Sx ls→∃ls',Sx ls'∧fH (gQ 2) fb2 (l.map D.int) ls s = .ok (.nx ls') s
 | [],ls,s,_,h=>⟨ls,h,rfl⟩
 | n::l,ls,s,hn,h=>by
  obtain ⟨a,x,y,cs,rfl,hl⟩:=h
  obtain ⟨cs',hl',e⟩:=abR (a:=a) (x:=x) (y:=y) (n:=n) hl (hn n (by simp)).1 (hn n (by simp)).2
  obtain ⟨ls',h2,e2⟩:=aan l [a,.ow (cs'.map D.int),.va (.int n),y] s (fun m hm=>hn m (by simp [hm])) ⟨_,_,_,cs',rfl,hl'⟩
  refine ⟨ls',h2,?_⟩
  show bnd (fb2 [a,.ow (cs.map D.int),.va (.int n),y]) _ s=_
  rw [e]
  exact e2
theorem aJ {m m':MS}{ls ls':List Sl}{s s':DS}(h:m ls s = .ok (.nx ls') s'):aR m m' ls s=m' ls' s':=by
 unfold aR
 rw [aP h]
theorem fold_ok (ns:List Int) (s:DS):∃cs:List Int,cs.length=64∧pO [.scr ns] s = .ok (.lst (cs.map D.int)) s:=by
 have a1:qK [2] (fun ls=>bnd ((ao (fun _=>ret (.int 64)) (fun _=>ret [])) ls) oJ) (gQ 2) (fun _=>ret true) (m2 iT (fun _=>ret (.int 17)) (au 2)) [.va (.scr ns),.un,.un,.un]=fun s=> .ok (((List.range 64).map fun (i:Nat)=>(17+(i:Int))).map D.int) s:=by
  funext s
  rfl
 obtain ⟨ls1,h1,e1⟩:=loop1 ns 0 [.va (.scr ns),.ow (((List.range 64).map fun (i:Nat)=>(17+(i:Int))).map D.int),.un,.un] s ⟨_,_,_,_,rfl,by simp⟩
 obtain ⟨ls2,h2,e2⟩:=aan ((List.range 63).map fun (i:Nat)=>(1+(i:Int))) ls1 s (fun n hn=>by
  obtain ⟨i,hi,rfl⟩:=List.mem_map.mp hn
  have:=List.mem_range.mp hi
  omega) h1
 obtain ⟨a,x,y,cs,rfl,hl⟩:=h2
 refine ⟨cs,hl,?_⟩
 show bnd (oA [.va (.scr ns),.un,.un,.un]) endF s=_
 have e:oA [.va (.scr ns),.un,.un,.un] s = .ok (.rt (.lst (cs.map D.int))) s:=by
  unfold oA
  refine (aJ (ls':=[.va (.scr ns),.ow (((List.range 64).map fun (i:Nat)=>(17+(i:Int))).map D.int),.un,.un]) (s':=s) ?_).trans ?_
  ·show bnd (qK [2] _ (gQ 2) _ _ [.va (.scr ns),.un,.un,.un]) _ s=_
   rw [a1]
   rfl
  refine (aJ (ls':=ls1) (s':=s) ?_).trans ?_
  ·exact e1
  refine (aJ (ls':=[a,.ow (cs.map D.int),x,y]) (s':=s) ?_).trans rfl
  exact e2
 rw [aP e]
 rfl
variable {G:Gd}{T:List NdefX.NTab}
def Iw (ns:List Int):List Int:=ns.map fun c=>if 1000000000000000000≤c then c else 0
def mGr:bJ (List D):=(qK [2] (Wn (au 0)) (gQ 2) (fun _=>ret true) (Jf (fun ls=>bnd (m2 ZS (au 2) (m2 Qc (fun _=>ret (.int 10)) (fun _=>ret (.int 18))) ls) jR) (au 2) (fun _=>ret (.int 0))))
theorem aag:∀(ns:List Int) (ls:List Sl) (s:DS),ls.length=3→yQ (gQ 2) (fun _=>ret true) (Jf (fun ls=>bnd (m2 ZS (au 2) (m2 Qc (fun _=>ret (.int 10)) (fun _=>ret (.int 18))) ls) jR) (au 2) (fun _=>ret (.int 0))) (ns.map D.int) ls s = .ok ((Iw ns).map D.int) s
 | [],ls,s,_=>rfl
 | n::ns,ls,s,h=>by
  have ih:=aag ns ls s h
  match ls,h with
  | [x,y,z],_=>
   have inner:Jf (fun ls=>bnd (m2 ZS (au 2) (m2 Qc (fun _=>ret (.int 10)) (fun _=>ret (.int 18))) ls) jR) (au 2) (fun _=>ret (.int 0)) [x,y,.va (.int n)]=ret (.int (if 1000000000000000000≤n then n else 0)):=by
    have ep:Qc (.int 10) (.int 18)=ret (.int 1000000000000000000):=rfl
    have eg:ZS (.int n) (.int 1000000000000000000)=ret (.bl (decide (n≥1000000000000000000))):=rfl
    simp only [Jf,m2,au,Af,ep,eg,List.getElem?_cons_zero,List.getElem?_cons_succ,jR]
    by_cases hn:1000000000000000000≤n
    ·rw [if_pos hn,decide_eq_true (show n≥1000000000000000000 from hn)]
     rfl
    ·rw [if_neg hn,decide_eq_false (show ¬n≥1000000000000000000 from hn)]
     rfl
   have e:(nox (Jf (fun ls=>bnd (m2 ZS (au 2) (m2 Qc (fun _=>ret (.int 10)) (fun _=>ret (.int 18))) ls) jR) (au 2) (fun _=>ret (.int 0)) ([x,y,z].set 2 (Sl.va (D.int n))))) s = .ok (.int (if 1000000000000000000≤n then n else 0)) s:=by
    show nox (Jf _ _ _ [x,y,.va (.int n)]) s=_
    rw [inner]
    rfl
   show bnd (nox (Jf _ _ _ ([x,y,z].set 2 (Sl.va (D.int n))))) (fun w=>bnd (yQ _ _ _ (ns.map D.int) [x,y,z]) fun ys=>ret (w::ys)) s=_
   rw [aP e,aP ih]
   rfl
theorem acz {ns:List Int}{x y:Sl}{s:DS}(h:ns.length≤1000):mGr [.va (.scr ns),x,y] s = .ok ((Iw ns).map D.int) s:=by
 show (if (ns.map D.int).length≤sizeLine then yQ _ _ _ (ns.map D.int) _ else stk:M (List D)) s=_
 rw [if_pos (by rw [List.length_map,sizeLine_eq];omega)]
 exact aag ns _ s rfl
def spB (K:Frag) (tb:List NdefX.NTab):Sp:=fun vs H Q _=>∃(a:Addr) (ns:List Int),vs=[.ref a]∧SqL K H a (ns.map V.int)∧ns.length≤1000∧(∀xs,H a≠some (.lst xs))∧NdefX.TabsN tb H ∧
 ∀(am ac ag:Addr) (cs:List Int) (H':Hp),cs.length=64→H am=none→H ac=none→H ag=none→(∀a o,¬(⟨K,none,tb⟩:Wd).gq a→H a=some o→H' a=some o)→DrwAt am ac ag ⟨cs,Iw ns,0,some am,[]⟩ H'→NdefX.TabsN tb H'→Q (.ref am) H'
def abD (K:Frag) (T:List NdefX.NTab) (Wx:WX) (tl:TE):TS:=tSeq (tAsg (tDisp [(tC (.str "cells"),JN K T Wx 1 pO (tCons (tVar 0) tNil)),(tC (.str "great"),tLst tNil),(tC (.str "spot"),tC (.int 0))]) (gName 1)) (tSeq (sDPut (tVar 1) (tC (.str "great")) tl) (tRet (tVar 1)))
theorem ints_of {K:Frag}{H:Hp}:∀{xs:List V}{cs:List Int},DvL K H xs (cs.map D.int)→xs=cs.map V.int
 | [],[],_=>rfl
 | _,[],r=>by cases r;rfl
 | _,c::cs,r=>by
  cases r with
  | cons a r=>
   cases a
   rw [ints_of r]
   rfl
theorem acs {x y z u:V}:putK (Fy x y z) lU u=Fy x u z:=by
 have h:¬sH=lU:=by decide
 have h2:¬tE=lU:=by decide
 simp [putK,Fy,h,h2]
theorem aa0 {x y z:V}:mergeK [] (Fy x y z)=Fy x y z:=by
 have h:¬sH=lU:=by decide
 have h1:¬sH=tE:=by decide
 have h2:¬lU=tE:=by decide
 simp [mergeK,putK,Fy,h,h1,h2]
theorem Rf {tb:List NdefX.NTab}{H:Hp}{x:Addr}{o:HO}{kvs:List (Key×V)}(w:NdefX.TabsN tb H) (e:H x=some (.dK kvs)):NdefX.TabsN tb (upd H x o):=fun t ht=>by
 obtain ⟨ps,h1,h2,h3⟩:=w t ht
 have ne:∀{b:Addr}{u:HO},H b=some u→(∀kvs,u ≠ .dK kvs)→b≠x:=fun {b u} hb n z=>by
  rw [z,e] at hb
  cases hb
  exact n _ rfl
 refine ⟨ps,?_,h2,fun pos cv hc=> ?_⟩
 ·rw [upd_ne (ne h1 (fun _ z=>by cases z))]
  exact h1
 ·obtain ⟨c,e1,e2⟩:=h3 pos cv hc
  exact ⟨c,e1,by rw [upd_ne (ne e2 (fun _ z=>by unfold LamX.CodeO at z;cases z))];exact e2⟩
theorem Qg {K:Frag}{wd:World}{Wx:WX}{tb:List NdefX.NTab}{tl:TE}{vs:List V}{H:Hp}{Q:VK}{E:XK}{D:Ends}(hD:D.rt=Q)
  (hl:∀(W:Wd) (H0:Hp) (σ:L2.St) (B H:Hp) (ls:List Sl) (s:DS) (Q:VK),Kn W B H→W.ok s B H→Sm (G0 tb wd) W K H0 B H σ ls→pX W K B H (mGr ls s) Q (fun c d H'=>Wx c d σ H')→tl σ H Q)
  (h:spB K tb vs H Q E):abD K tb Wx tl D (L2.start ["script","m","cell"] vs) H:=by
 subst hD
 obtain ⟨a,ns,rfl,hS,hn,hnl,hT,q⟩:=h
 have wk:(⟨K,none,tb⟩:Wd).ok ⟨[],[],0,none,[]⟩ (fun _=>none) H:=⟨fun p e=>(nomatch e),hT,rfl,.nil fun _ _ z=>nomatch z⟩
 have volT:∀{b:Addr},(⟨K,none,tb⟩:Wd).gq b→∀{H:Hp},NdefX.TabsN tb H→∃ps,H b=some (.tbl ps):=fun {b} v {H} hT=>by
  rcases v with ⟨p,e,_⟩ | ⟨t,ht,rfl⟩
  ·cases e
  ·obtain ⟨ps,e,_⟩:=hT t ht
   exact ⟨ps,e⟩
 generalize hW:(⟨K,none,tb⟩:Wd)=W at wk volT q
 generalize hs0:(⟨[],[],0,none,[]⟩:DS)=s0 at wk
 have tabs:∀{B H:Hp},W.ok s0 B H→NdefX.TabsN tb H:=fun {B H} w=>by have:=w.tb;rw [←hW] at this;exact this
 obtain ⟨B,kn,hSB,hBl,hBg⟩:∃B,Kn W B H∧SqL K B a (ns.map V.int)∧(∀b xs,B b≠some (.lst xs))∧∀b o,B b=some o→o.gh=false:=by
  rcases hS with (e | ⟨o,e⟩) | hK
  ·exact absurd e (hnl _)
  ·refine ⟨fun b=>if b=a then some (.frz o (.lst (ns.map V.int))) else none,fun b u z=> ?_,.inl (.inr ⟨o,if_pos rfl⟩),fun b xs z=> ?_,fun b u z=> ?_⟩
   ·by_cases hb:b=a
    ·subst hb
     dsimp only at z
     rw [if_pos rfl] at z
     cases z
     refine ⟨fun v=> ?_,Or.inl ⟨rfl,e⟩⟩
     obtain ⟨ps,z⟩:=volT v (tabs wk)
     rw [e] at z
     cases z
    ·dsimp only at z
     rw [if_neg hb] at z
     cases z
   ·dsimp only at z
    by_cases hb:b=a
    ·rw [if_pos hb] at z
     cases z
    ·rw [if_neg hb] at z
     cases z
   ·dsimp only at z
    by_cases hb:b=a
    ·rw [if_pos hb] at z
     cases z
     rfl
    ·rw [if_neg hb] at z
     cases z
  ·exact ⟨fun _=>none,fun _ _ z=>(nomatch z),.inr hK,fun _ _ z=>(nomatch z),fun _ _ z=>(nomatch z)⟩
 intro p hp
 have nvp:¬W.gq p:=fun v=>by
  obtain ⟨ps,z⟩:=volT v (tabs wk)
  rw [hp] at z
  cases z
 have gr1:Gr W B H B (upd H p (.dK [])):=Gr.lay kn hp
 have wB:W.ok s0 B H:=⟨wk.dr,wk.tb,wk.at_,.nil hBg (by rw [←hs0])⟩
 have w1:=wB.st (bh (o:=HO.dK []) hp)
 obtain ⟨cs,hcs,ef⟩:=fold_ok ns s0
 refine ⟨_,rfl,rfl,W,B,s0,[.scr ns],⟨by rw [←hW],by rw [←hW]⟩,gr1.kn,w1,.cons (.scr hSB) .nil,?_⟩
 rw [ef]
 intro v B2 H2 g2 w2 r2
 cases r2 with
 | @lst ac xs _ hac rr=>
 have exs:=ints_of rr
 subst exs
 have hac0:upd H p (.dK []) ac=none:=by
  cases e:upd H p (.dK []) ac with
  | none=>rfl
  | some o=>
   have kv:=g2.kn ac _ hac
   have eo:=g2.hh ac o kv.1 (fun u y=>hBg _ u y) e
   rw [g2.kn.get hac] at eo
   cases eo
   have z:=g2.nw ac _ e rfl
   rw [hac] at z
   exact absurd z.symm (hBl ac _)
 have nap:ac≠p:=fun z=>by
  rw [z,upd_same] at hac0
  cases hac0
 have hacH:H ac=none:=by
  rw [upd_ne nap] at hac0
  exact hac0
 refine ⟨by show 0≤sizeLine;omega,fun u hu=> ?_⟩
 have p2:H2 p=some (.dK []):=g2.hh p _ nvp (fun u y=>hBg _ u y) upd_same
 have npu:p≠u:=fun z=>by
  rw [←z,p2] at hu
  cases hu
 have c2:H2 ac=some (.lst (cs.map V.int)):=g2.kn.get hac
 have nau:ac≠u:=fun z=>by
  rw [←z,c2] at hu
  cases hu
 have p3:upd H2 u (.lst []) p=some (.dK []):=by rw [upd_ne npu];exact p2
 refine ⟨p3,Fy (.ref ac) (.ref u) (.int 0),rfl,by show 3≤15;decide,?_⟩
 rw [aa0]
 have gr3:Gr W B H B2 (upd H2 u (.lst [])):=(gr1.trans g2).trans (Gr.lay g2.kn hu)
 have w3:=w2.st (bh (o:=HO.lst []) hu)
 have bp:B2 p=none:=by
  have z:=g2.nw p _ upd_same rfl
  rw [z]
  cases e:B p with
  | none=>rfl
  | some o=>
   obtain ⟨u,y⟩:=kn.ex e
   rw [hp] at y
   cases y
 generalize hH4:upd (upd H2 u (.lst [])) p (.dK (Fy (.ref ac) (.ref u) (.int 0)))=H4
 have gr4:Gr W B H B2 H4:=by rw [←hH4];exact gr3.chg nvp hp bp
 have w4:W.ok s0 B2 H4:=by
  refine ⟨fun q e=> ?_,?_,w3.at_,by rw [←hH4];exact w3.st_.off bp⟩
  ·rw [←hW] at e
   cases e
  ·have z:=Rf (o:= .dK (Fy (.ref ac) (.ref u) (.int 0))) (tabs w3) p3
   rw [hH4] at z
   rw [←hW]
   exact z
 have p4:H4 p=some (.dK (Fy (.ref ac) (.ref u) (.int 0))):=by rw [←hH4,upd_same]
 have c4:H4 ac=some (.lst (cs.map V.int)):=by rw [←hH4,upd_ne nap,upd_ne nau];exact c2
 have sm:Sm (G0 tb wd) W K H B2 H4 [some (.ref a),some (.ref p),none] [.va (.scr ns),.va (.raw (.ref p)),.un]:=by
  refine ⟨rfl,fun i x e=> ?_,fun i j x y r _ e _ o1 _ _=> ?_,trivial,by rw [←hW];exact ⟨rfl,rfl⟩⟩
  ·match i,e with
   | 0,e=>cases e;exact ⟨_,rfl,_,rfl,.scr (g2.bb.l hSB)⟩
   | 1,e=>cases e;exact ⟨_,rfl,_,rfl,.raw _⟩
   | 2,e=>cases e;exact ⟨_,rfl,trivial⟩
   | n+3,e=>simp at e
  ·match i,e with
   | 0,e=>cases e;cases o1
   | 1,e=>cases e;cases o1
   | 2,e=>cases e;cases o1
   | n+3,e=>simp at e
 refine hl W H _ B2 H4 [.va (.scr ns),.va (.raw (.ref p)),.un] s0 _ gr4.kn w4 sm ?_
 rw [acz hn]
 intro ag us B5 H5 g5 w5 hag nvg bg hg5 r5
 have eus:=ints_of r5
 subst eus
 have p5:H5 p=some (.dK (Fy (.ref ac) (.ref u) (.int 0))):=g5.hh p _ nvp (.none bp) p4
 refine ⟨_,rfl,p,_,rfl,.inl ⟨_,lU,p5,rfl,by show 3<sizeLine;rw [sizeLine_eq];omega,rfl⟩,?_⟩
 rw [acs]
 refine ⟨_,rfl,?_⟩
 have nvc:¬W.gq ac:=(g2.kn _ _ hac).1
 have ngp:ag≠p:=fun z=>by
  rw [z,p4] at hag
  cases hag
 have ncg:ac≠ag:=fun z=>by
  rw [←z,c4] at hag
  cases hag
 have gr6:Gr W B H B5 (upd H5 p (.dK (Fy (.ref ac) (.ref ag) (.int 0)))):=(gr4.trans g5).chg nvp hp (by rw [g5.nw p _ p4 rfl];exact bp)
 have hagH:H ag=none:=by
  cases e:H ag with
  | none=>rfl
  | some o=>
   rw [gr4.hh ag o nvg (fun u y=>hBg _ u y) e] at hag
   cases hag
 exact q p ac ag cs _ hcs hp hacH hagH (fun b u nb e=>gr6.hh b u nb (fun u y=>hBg _ u y) e) ⟨upd_same,by rw [upd_ne nap];exact g5.hh ac _ nvc (.val hac rfl) c4,by rw [upd_ne ngp];exact hg5,ncg⟩ (Rf (tabs w5) p5)
variable {G:Gd}{T:List NdefX.NTab}
structure CalS (P:Program) (w:World) (K:Frag) (mg:Str→Option Value) (base:Heap) (x:Str) (k:Nat) (sp:Sp):Prop where
 ex:∃(f:Addr) (fd:FuncData) (ps:List Str),FnG P w K mg base k f fd ps sp∧mg x=some (.ref f)∧keepIn K (.ref f)=true∧Binds K fd ps []
def aaj (sp:Sp) (Wx:WX) (t:TA):TE:=fun σ H Q=>t σ H fun vs H1=>sp vs H1 Q (fun c d H'=>Wx c d σ H')
section
variable {X:Cx}{Wx:WX}{e:Expr}{es:List Expr}{pos p:Pos}{k:Nat}{x:Str}{sp:Sp}{t:TA}
theorem Zq (C:CalS X.prog X.w X.K X.mg X.base x k sp) (hr:RoomG k X.A) (hg:Gl X x) (tk:Takes X Wx) (ha:PA X (e::es) t) (hdb:(x==("__debug__" : Str))=false:=by decide) (he:starEach (e::es) X.env=(false,eval e X.env)::starEach es X.env:=by rfl) (hpl:(backTo pos (starEach es X.env)).any (·.1)=false:=by rfl) :
  PE X (.Call (.Name x p) (e::es) [] pos) (aaj sp Wx t):=by
 obtain ⟨f,fd,ps,F,h1,h2,h3⟩:=C.ex
 refine ⟨fun pins s σ H Q I h=> ?_⟩
 refine wpAny_Call_Name_kw (ld_glob I hg h1 ?_ hdb)
 refine callWith_K (h₀:=X.base) I.ok.mod.kin h2 (thn (ha.run pos pins s σ H _ I h) fun us s1 ⟨vs,H1,I1,r,q⟩=>⟨I1.kIn,?_⟩) he hpl
 exact Og F hr h3 tk I1 r q
end
section
variable {P:Program}{w:World}{K:Frag}{mg:Str→Option Value}{base:Heap}{x:Str}{st:Stmt}{k:Nat}{N ps:List Str}{sp:Sp}
theorem DefF.acq (F:DefF K mg x st) (S:FnScope N ps (defScope st)) (len:∀vs H Q E,sp vs H Q E→vs.length=ps.length)
  (hb:∀(kV doc pm:Value) (an:Option Addr) (cdv ct:Value) (us:List Value),us.length=ps.length→bindArgs (fnOf x x (defArgs st) (defBody st) (defScope st) .none kV doc pm an cdv ct) ⟨us,[]⟩=pure (ps.zip us))
  (body:∀(f:Addr) (cdv:Value) (A:Around) (outer:List Env) (s:Shared) (H:Hp) (vs:List V) (Q:VK) (E:XK),RoomG k (A.deeper (envOfC x (defScope st) s.heap.objs.size f cdv))→sp vs H Q E →
   ∃t,PSs (cxOf (L2.CX P w) P w K mg base N x (defScope st) f cdv A outer s H E) (defBody st) t∧t { nx:=fun _ H'=>Q .non H',rt:=Q} (L2.start N vs) H) :
  CalS P w K mg base x (k+1) sp:=by
 obtain ⟨f,fd,D,g⟩:=F.ex
 exact ⟨f,fd,ps,X7 D S len (body f),g,D.kp,D.bindsN hb⟩
theorem CalS.cal {n:Nat}{m:List D→M D}(C:CalS P w K mg base x k (Km K T n m)):Cal P w K mg base T x k n m:=⟨C.ex⟩
end
def Ra (K:Frag) (tb:List NdefX.NTab) (n:Nat) (mr:MS):Sp:=fun vs H Q _=>∃(a:Addr) (ns:List Int),vs=[.ref a]∧SqL K H a (ns.map V.int)∧ns.length≤1000∧(∀xs,H a≠some (.lst xs))∧NdefX.TabsN tb H ∧
 (∀(am:Addr) (s:DS),s.cells.length=64→s.great=Iw ns→s.spot=0→s.at_=some am→s.objs=[]→∃s',bnd (mr (.va (.scr ns) :: .va (.raw (.ref am))::List.replicate n .un)) endF s = .ok (.bl true) s')∧∀H',Q (.bl true) H'
theorem VF {X:Cx}{E:XK}{tb:List NdefX.NTab}{n:Nat}{mr:MS}{N:List Str}{tr:TS}{vs:List V}{H:Hp}{Q:VK}(hN:N.length=n+2)
  (ht:∀(W:Wd) (B0 H0:Hp) (σ:L2.St) (B H:Hp) (ls:List Sl) (s:DS) (D:Ends),Gr W B0 H0 B H→W.ok s B H→Sm (G0 tb X.w) W X.K H0 B H σ ls→jO (G0 tb X.w) W X.K (EW E) B0 H0 (mr ls s) D→tr D σ H)
  (h:Ra X.K tb n mr vs H Q E):tSeq (tAsg (aaj (spB X.K tb) (EW E) (tCons (tVar 0) tNil)) (gName 1)) tr { nx:=fun _ H'=>Q .non H',rt:=Q} (L2.start N vs) H:=by
 obtain ⟨a,ns,rfl,hS,hn,hnl,hT,hm,q⟩:=h
 have e0:(L2.start N [V.ref a])[0]?=some (some (.ref a)):=rfl
 refine ⟨_,e0,a,ns,rfl,hS,hn,hnl,hT,fun am ac ag cs H' hcs h1 h2 h3 ext dr tabs=> ?_⟩
 have es:(L2.start N [V.ref a]).set 1 (some (.ref am))=some (.ref a)::some (.ref am)::List.replicate n none:=by
  unfold L2.start
  rw [hN]
  show List.set (some (V.ref a)::List.replicate (n+2-1) none) 1 _=_
  rw [show n+2-1=n+1 from rfl,List.replicate_succ]
  rfl
 show tr _ ((L2.start N [V.ref a]).set 1 (some (.ref am))) H'
 rw [es]
 have notT:∀{b:Addr}{o:HO},H b=some o→(∀ps,o ≠ .tbl ps)→¬(⟨X.K,none,tb⟩:Wd).gq b:=fun {b o} hb n v=>by
  rcases v with ⟨p,e,_⟩ | ⟨t,ht,rfl⟩
  ·cases e
  ·obtain ⟨ps,e,_⟩:=hT t ht
   rw [hb] at e
   cases e
   exact n _ rfl
 obtain ⟨B,kn,hSB,hBg⟩:∃B,Kn ⟨X.K,some (am,ac,ag),tb⟩ B H'∧SqL X.K B a (ns.map V.int)∧∀b o,B b=some o→o.gh=false:=by
  rcases hS with (e | ⟨o,e⟩) | hK
  ·exact absurd e (hnl _)
  ·refine ⟨fun b=>if b=a then some (.frz o (.lst (ns.map V.int))) else none,fun b u z=> ?_,.inl (.inr ⟨o,if_pos rfl⟩),fun b u z=> ?_⟩
   dsimp only at z
   by_cases hb:b=a
   ·subst hb
    rw [if_pos rfl] at z
    cases z
    have nt:=notT e (fun _ z=>by cases z)
    refine ⟨fun v=> ?_,Or.inl ⟨rfl,ext b _ nt e⟩⟩
    rcases v with ⟨p,ep,hx⟩ | v
    ·cases ep
     rcases hx with rfl | rfl | rfl
     ·rw [h1] at e;cases e
     ·rw [h2] at e;cases e
     ·rw [h3] at e;cases e
    ·exact nt (.inr v)
   ·rw [if_neg hb] at z
    cases z
   ·dsimp only at z
    by_cases hb:b=a
    ·rw [if_pos hb] at z
     cases z
     rfl
    ·rw [if_neg hb] at z
     cases z
  ·exact ⟨fun _=>none,fun _ _ z=>(nomatch z),.inr hK,fun _ _ z=>(nomatch z)⟩
 have wk:(⟨X.K,some (am,ac,ag),tb⟩:Wd).ok ⟨cs,Iw ns,0,some am,[]⟩ B H':=⟨fun p e=>by cases e;exact dr,tabs,rfl,.nil hBg⟩
 have sm:Sm (G0 tb X.w) ⟨X.K,some (am,ac,ag),tb⟩ X.K H' B H' (some (.ref a)::some (.ref am)::List.replicate n none) (.va (.scr ns) :: .va (.raw (.ref am))::List.replicate n .un):=by
  have un:∀{i:Nat}{y:Sl},(List.replicate n Sl.un)[i]?=some y→y = .un∧i<n:=fun {i y} z=>by
   rw [List.getElem?_replicate] at z
   split at z
   ·cases z
    exact ⟨rfl,by assumption⟩
   ·cases z
  refine ⟨by simp,fun i y e=> ?_,fun i j x y r _ e _ o1 _ _=> ?_,trivial,rfl,rfl⟩
  ·match i,e with
   | 0,e=>cases e;exact ⟨_,rfl,_,rfl,.scr hSB⟩
   | 1,e=>cases e;exact ⟨_,rfl,_,rfl,.raw _⟩
   | m+2,e=>
    obtain ⟨rfl,hm⟩:=un (i:=m) (y:=y) (by simpa using e)
    exact ⟨none,by simp [hm],trivial⟩
  ·match i,e with
   | 0,e=>cases e;cases o1
   | 1,e=>cases e;cases o1
   | m+2,e=>
    obtain ⟨z,_⟩:=un (i:=m) (by simpa using e)
    rw [z] at o1
    cases o1
 obtain ⟨s',ee⟩:=hm am ⟨cs,Iw ns,0,some am,[]⟩ hcs rfl rfl rfl rfl
 refine ht _ B H' _ B H' _ _ _ (Gr.refl kn) wk sm ?_
 cases e:mr (.va (.scr ns) :: .va (.raw (.ref am))::List.replicate n .un) ⟨cs,Iw ns,0,some am,[]⟩ with
 | stuck=>rw [aO e] at ee;cases ee
 | exc C fs s'=>rw [aC e] at ee;cases ee
 | ok f s2=>
  rw [aP e] at ee
  cases f with
  | nx ls=>cases ee
  | bk ls=>cases ee
  | ct ls=>cases ee
  | rl d=>cases ee
  | rt d=>
   cases ee
   intro v B2 H2 g w r
   cases r
   exact q H2
theorem ZW {k:Nat}(h:Room k callerA):RoomG k callerA:=⟨h,rfl⟩
theorem acC {P:Program}{w:World}{K:Frag}{mg mb:Str→Option Value}{k:Nat}{fa a:Addr}{fd:FuncData}{x:Str}{sp:Sp}{s1:Shared}{vs:List Value}{ns:List Int}{cs:List (Addr×Addr)}
  (KX:K.In s1.heap) (hG:s1.heap.Ns mainGlobals mg) (hB:s1.heap.Ns builtinsNs mb) (hbb:∀x:Str,x ≠ "__name__" → mb x=bootBuiltins x) (hL:s1.heap.NoLimit) (hg:s1.gens = #[])
  (hT:∀p∈cs,s1.heap.get? p.2=some ({ cls:= .none,data:= .fields #[]}:Obj)) (nT:∀p∈cs,K.lookup p.2=none) (hC:∀p∈cs,codeHdIn K p.1 p.2=true)
  (hbm:∃(bm:Addr) (ob:Obj),mg "__builtins__" = some (.ref bm)∧bm≠builtinsNs∧s1.heap.get? bm=some ob∧ob.cls = .type "module" ∧ ob.dict=some builtinsNs∧ob.data = .plain)
  (ha:s1.heap.get? a=some { cls:= .type "list",data:= .seq vs.toArray}) (hi:IntsAre vs ns) (hl:ns.length≤sizeLine) (hr:Room k callerA)
  (F:∀base:Heap,K.In base→base.Ns mainGlobals mg→(∀p∈cs,LamX.TabB base mg p.1 p.2)→FnG P w K mg base k fa fd [x] sp) (bd:∀(s:Shared) (u:Value),BindsTo s fd ⟨[u],[]⟩ [(x,u)])
  (hsp:∀H:Hp,(∀b xs,H b≠some (.lst xs))→(∀p∈cs,H p.2=some (.tbl #[]))→SqL K H a (ns.map V.int)→sp [.ref a] H (fun v _=>v = .bl true) fun _ _ _=>False) (hCX:∀H e s',L2.CX P w [] H s1 (fun _ _ _=>False) e s'→False) :
  codeAny (model P w) callerA (.call (.ref fa) ⟨[.ref a],[]⟩) (fun r s'=>r = .ok (.ret (.bool true))∧OldK s1.heap s'.heap∧s'.os=s1.os∧AllBare s'.gens) s1:=by
 have tab:∀b:Addr,b∈cs.map (·.2)→s1.heap.get? b=some ({ cls:= .none,data:= .fields #[]}:Obj)∧K.lookup b=none:=fun b hb=>by
  obtain ⟨p,hp,rfl⟩:=List.mem_map.mp hb
  exact ⟨hT p hp,nT p hp⟩
 have na:a∉cs.map (·.2):=fun z=>by
  have y:=(tab a z).1
  rw [ha] at y
  cases y
 have go:∀H:Hp,(∀b u,H b=some u→(b=a∧K.lookup a=none∧u = .frz { cls:= .type "list",data:= .seq vs.toArray} (.lst (ns.map V.int)))∨(b∈cs.map (·.2)∧u = .tbl #[]))→(∀p∈cs,H p.2=some (.tbl #[]))→SqL K H a (ns.map V.int)→HOk P w H s1.heap →
   codeAny (model P w) callerA (.call (.ref fa) ⟨[.ref a],[]⟩) (fun r s'=>r = .ok (.ret (.bool true))∧OldK s1.heap s'.heap∧s'.os=s1.os∧AllBare s'.gens) s1:=fun H only hH sq hok=>by
  have free:∀{b:Addr}{o:Obj},s1.heap.get? b=some o→(∀us n,o.data ≠ .seq us n)→o.data ≠ .fields #[]→H b=none:=fun {b o} e n1 n2=>by
   cases z:H b with
   | none=>rfl
   | some u=>
    rcases only b u z with ⟨rfl,_⟩ | ⟨hb,_⟩
    ·rw [ha] at e
     cases e
     exact (n1 _ _ rfl).elim
    ·rw [(tab b hb).1] at e
     cases e
     exact (n2 rfl).elim
  have nsH:∀{b:Addr}{m:Str→Option Value},s1.heap.Ns b m→(hidT s1.heap H).Ns b m:=fun {b m} ⟨o,es,ep,e,hd,r⟩=>⟨o,es,ep,hidT_get e (free e (fun us n z=>by rw [hd] at z;cases z) fun z=>by rw [hd] at z;cases z),hd,r⟩
  have kH:K.In (hidT s1.heap H):=fun b o e=>hidT_get (KX b o e) (by
   cases z:H b with
   | none=>rfl
   | some u=>
    rcases only b u z with ⟨rfl,n,_⟩ | ⟨hb,_⟩
    ·rw [n] at e
     cases e
    ·rw [(tab b hb).2] at e
     cases e)
  have env:Env0 P w K mg (hidT s1.heap H) callerA [] s1 H:={
   frames:=rfl
   mod:=⟨kH,nsH hG,⟨mb,nsH hB,hbb⟩,let ⟨mc,c1,c2⟩:=hL;⟨mc,nsH c1,c2⟩⟩
   bs:=fun b o e=>of_hidT e
   bsz:=Nat.le_of_eq (hidT_size _ _)
   funs:=trivial
   frf:=fun b hb=>(nomatch (show b∈([]:List Addr) from hb))
   hok:=hok
   bare:= .of_eq hg}
  have TB:∀p∈cs,LamX.TabB (hidT s1.heap H) mg p.1 p.2:=fun p hp=>by
   refine ⟨codeHd_of_K kH (hC p hp),?_,fun z=> ?_⟩
   ·obtain ⟨bm,ob,b1,b2,b3,b4,b5,b6⟩:=hbm
    refine ⟨bm,ob,b1,b2,fun y=> ?_,fun y=> ?_,hidT_get b3 (free b3 (fun us n z=>by rw [b6] at z;cases z) fun z=>by rw [b6] at z;cases z),b4,b5,b6⟩
    ·obtain ⟨o,es,ep,e,hd,_⟩:=hG
     rw [y,e] at b3
     cases b3
     rw [hd] at b6
     cases b6
    ·rw [y,hT p hp] at b3
     cases b3
     cases b6
   ·obtain ⟨o,es,ep,e,hd,_⟩:=hG
    rw [z,hT p hp] at e
    cases e
    cases hd
  refine codeAny_mono ((F _ kH (nsH hG) TB).run callerA [] s1 H ⟨[.ref a],[]⟩ [.ref a] [.ref a] _ _ (ZW hr) env (bd s1 (.ref a)) (.cons rfl .nil) (hsp H (fun b xs z=>by
   rcases only b _ z with ⟨_,_,e⟩ | ⟨_,e⟩<;>cases e) hH sq)) fun r s' z=> ?_
  cases r with
  | error e=>exact (hCX H e s' z).elim
  | ok fl=>
   cases fl with
   | next=>exact False.elim z
   | brk=>exact False.elim z
   | cont=>exact False.elim z
   | ret u=>
    obtain ⟨v,H',os,bare,un,hok',rv,rfl⟩:=z
    obtain rfl:u=Value.bool true:=rv
    have key:∀b o,b∉cs.map (·.2)→s1.heap.get? b=some o→s'.heap.get? b=some o:=fun b o nb e=>by
     cases z:H b with
     | none=>exact un.keep b o e z (fun y=>(nomatch (show b∈([]:List Addr) from y))) (by simp)
     | some u=>
      rcases only b u z with ⟨rfl,_,rfl⟩ | ⟨hb,_⟩
      ·obtain ⟨e1,_⟩:=hok _ _ z
       obtain ⟨e2,_⟩:=hok' _ _ (un.frzs _ _ _ z)
       rw [e] at e1
       cases e1
       exact e2
      ·exact absurd hb nb
    have more:∀p∈cs,∃m:Array Value,s'.heap.get? p.2=some ({ cls:= .none,data:= .fields m}:Obj):=fun p hp=>by
     obtain ⟨m,z⟩:=un.tbls p.2 #[] (hH p hp)
     exact ⟨_,hok' p.2 _ z⟩
    refine ⟨rfl,⟨fun b o e=> ?_,fun b o e=> ?_⟩,os,bare⟩
    ·by_cases hb:b∈cs.map (·.2)
     ·obtain ⟨p,hp,rfl⟩:=List.mem_map.mp hb
      obtain ⟨m,hm⟩:=more p hp
      rw [hT p hp] at e
      cases e
      exact .inr (.inl ⟨((codeHd_of_K KX (hC p hp)).tab (hT p hp)).isCodeTable,rfl,#[],m,rfl,by rw [Array.empty_append];exact hm⟩)
     ·exact .inl (key b o hb e)
    ·by_cases hb:b∈cs.map (·.2)
     ·obtain ⟨p,hp,rfl⟩:=List.mem_map.mp hb
      obtain ⟨m,hm⟩:=more p hp
      exact ⟨_,hm⟩
     ·exact ⟨o,key b o hb e⟩
 have rv:=vals_ints hi
 have in_:∀p∈cs,p.2∈cs.map (·.2):=fun p hp=>List.mem_map.mpr ⟨p,hp,rfl⟩
 cases hk:K.lookup a with
 | some o=>
  have e:=KX a o hk
  rw [ha] at e
  cases e
  have at_:∀b u,(fun b=>if b∈cs.map (·.2) then some (HO.tbl #[]) else none) b=some u→b∈cs.map (·.2)∧u = .tbl #[]:=fun b u z=>by
   dsimp only at z
   split at z
   ·cases z
    exact ⟨by assumption,rfl⟩
   ·cases z
  exact go (fun b=>if b∈cs.map (·.2) then some (.tbl #[]) else none) (fun b u z=> .inr (at_ b u z)) (fun p hp=>if_pos (in_ p hp)) (.inr ⟨_,vs.toArray,_,hk,rfl,rfl,rfl,by rw [List.size_toArray,hi.length];exact hl,by simpa using rv⟩) fun b u z=>by
   obtain ⟨hb,rfl⟩:=at_ b u z
   exact (tab b hb).1
 | none=>
  have at_:∀b u,(fun b=>if b=a then some (HO.frz { cls:= .type "list",data:= .seq vs.toArray} (.lst (ns.map V.int))) else if b∈cs.map (·.2) then some (HO.tbl #[]) else none) b=some u→(b=a∧u = .frz { cls:= .type "list",data:= .seq vs.toArray} (.lst (ns.map V.int)))∨(b∈cs.map (·.2)∧u = .tbl #[]):=fun b u z=>by
   dsimp only at z
   split at z
   ·cases z
    exact .inl ⟨by assumption,rfl⟩
   ·split at z
    ·cases z
     exact .inr ⟨by assumption,rfl⟩
    ·cases z
  refine go (fun b=>if b=a then some (.frz { cls:= .type "list",data:= .seq vs.toArray} (.lst (ns.map V.int))) else if b∈cs.map (·.2) then some (.tbl #[]) else none) (fun b u z=>(at_ b u z).imp (fun y=>⟨y.1,hk,y.2⟩) id) (fun p hp=> ?_) (.inl (.inr ⟨_,if_pos rfl⟩)) fun b u z=> ?_
  ·exact (if_neg fun z=>na (by rw [←z];exact in_ p hp)).trans (if_pos (in_ p hp))
  ·rcases at_ b u z with ⟨rfl,rfl⟩ | ⟨hb,rfl⟩
   ·exact ⟨ha,by rw [List.length_map];exact hl,vs,_,rv,ha⟩
   ·exact (tab b hb).1
theorem aaZ {l:OpenLaw}{n k:Nat}{q:Program}{loose:List Str}{XP:(Str→Option Value)→Heap→Prop}{YP:World→Heap→Prop}{d:DefRec}{x:Str}
  (hn:l.most=some n) (hn2:n≤sizeLine) (hdf:d.params.defaults=[]) (hr:Room k callerA)
  (F:∀(w:World) (mg:Str→Option Value) (fa:Addr) (h:Heap),YP w h→h.Ns mainGlobals mg→mg d.name=some (.ref fa) →
   ∃(K:Frag) (fd:FuncData) (sp:Sp) (cs:List (Addr×Addr)),K.In h∧(∀p∈cs,h.get? p.2=some ({ cls:= .none,data:= .fields #[]}:Obj))∧(∀p∈cs,K.lookup p.2=none)∧(∀p∈cs,codeHdIn K p.1 p.2=true)∧(∀(s:Shared) (u:Value),BindsTo s fd ⟨[u],[]⟩ [(x,u)]) ∧
    (∀(H:Hp) (a:Addr) (ns:List Int),ns.length≤n→(∀b xs,H b≠some (.lst xs))→(∀p∈cs,H p.2=some (.tbl #[]))→SqL K H a (ns.map V.int)→sp [.ref a] H (fun v _=>v = .bl true) fun _ _ _=>False) ∧
    ∀base:Heap,K.In base→base.Ns mainGlobals mg→(∀p∈cs,LamX.TabB base mg p.1 p.2)→FnG l.prog w K mg base k fa fd [x] sp)
  (hCX:∀(w:World) (H:Hp) (s:Shared) (e:Value) (s':Shared),L2.CX l.prog w [] H s (fun _ _ _=>False) e s'→False) :
  WalkO q loose XP YP l.row.toRowW d [] (fun f vs=>PySem.call f vs):=by
 refine Att.attach_call hn hdf fun w s0 s1 mg mb fa o pm cd doc a vs ns G Y ho hd hcd hmg hobj hints hlen hg=> ?_
 obtain ⟨K,fd,sp,cs,KX,hT,nT,hC,bd,hsp,hF⟩:=F w mg fa _ Y G.T.g hmg
 exact acC KX G.T.g G.T.b G.T.builtins G.T.nolimit hg hT nT hC G.T.bmain hobj hints (Nat.le_trans hlen hn2) hr hF bd (fun H hO hH hS=>hsp H a ns hlen hO hH hS) fun H e s'=>hCX w H s1 e s'
variable {G:Gd}
abbrev aed:List Value:=[.type "ValueError",.type "Exception",.type "BaseException",.type "object"]
abbrev aer:List Value:=[.type "OverflowError",.type "ArithmeticError",.type "Exception",.type "BaseException",.type "object"]
def Yn (K:Frag) (C:Addr) (ve:Bool):Bool:=
 excInitIn K C (if ve then aed else aer) (if ve then "ValueError.__new__" else "OverflowError.__new__")&&(hasDictIn K C&&(decide (findIn K (.ref C) "__setattr__" = some (some (.builtin "object.__setattr__"))) &&
  (decide (ks_superIn K C C "__init__" = some (some (.builtin (if ve then "ValueError.__init__" else "OverflowError.__init__"))))&&(decide (subIn K (.ref C) (.type (if ve then "ValueError" else "OverflowError"))=some true)&&(decide (subIn K (.ref C) (.ref C)=some true) &&
   (decide (nsIn K cStatics "thirdparty.any" = some none)&&(decide (subIn K (.ref C) (.type "BaseException")=some true)&&(decide (typeIn K (.ref C)=some (.type "type"))&&keepIn K (.ref C)))))))))
theorem aau {K:Frag}{C:Addr}{B newId initId:String}{bmB:List Value}(fb:ExcBaseFacts B newId initId bmB) (kx:KxsFacts B initId) (st:∀self,refuseLoop self "__setattr__" bmB=pure ()) (ob:bmB.contains (.type "object")=true)
  (h1:excInitIn K C bmB newId=true) (h2:hasDictIn K C=true) (sa:findIn K (.ref C) "__setattr__" = some (some (.builtin "object.__setattr__"))) (sup:ks_superIn K C C "__init__" = some (some (.builtin initId))) (subB:subIn K (.ref C) (.type B)=some true)
  (subC:subIn K (.ref C) (.ref C)=some true) (opq:nsIn K cStatics "thirdparty.any" = some none) (exC:subIn K (.ref C) (.type "BaseException")=some true) (tyC:typeIn K (.ref C)=some (.type "type")) (kC:keepIn K (.ref C)=true):XC K C B newId initId bmB:=by
 refine ⟨fb,kx,st,ob,?_,sa,sup,subB,subC,opq,exC,tyC,kC⟩
 obtain ⟨cd0,hcd0,hh⟩:=any_some h2
 unfold excInitIn at h1
 split at h1
 ·rename_i dd cd sl ho
  split at h1
  ·rename_i C' bm k0 k1 k2 k3 n k5 hm hs
   simp only [Bool.and_eq_true,beq_iff_eq,Bool.not_eq_true'] at h1
   obtain ⟨⟨⟨rfl,rfl⟩,hdel⟩,ht⟩:=h1
   have hc:clsIn K C'=some cd:=by unfold clsIn;rw [ho]
   have hh:cd.hasDict=true:=by
    rw [hc] at hcd0
    cases hcd0
    exact hh
   obtain ⟨nm,bs,mro,ns,qn,hd,sn,sub,ab,col,del⟩:=cd
   dsimp only at hm hdel hh
   subst hm hdel hh
   obtain ⟨l⟩:=sl
   simp only at hs
   subst hs
   exact ⟨nm,qn,ns,bs,bm,sn,sub,ab,col,dd,k0,k1,k2,k3,k5,ho,ht⟩
  ·cases h1
 ·cases h1
theorem Lf {K:Frag}{C:Addr}{ve:Bool}(h:Yn K C ve=true):∃B newId initId bmB,XC K C B newId initId bmB:=by
 unfold Yn at h
 simp only [Bool.and_eq_true,decide_eq_true_eq] at h
 obtain ⟨h1,h2,h3,h4,h5,h6,h7,h8,h9,h10⟩:=h
 cases ve with
 | true=>exact ⟨_,_,_,_,aau F.excBase_ValueError kxs_ValueError (fun self=>F.store_ValueError.passes self) (by decide +kernel) h1 h2 h3 h4 h5 h6 h7 h8 h9 h10⟩
 | false=>exact ⟨_,_,_,_,aau F.excBase_OverflowError kxs_OverflowError (fun self=>F.store_OverflowError.passes self) (by decide +kernel) h1 h2 h3 h4 h5 h6 h7 h8 h9 h10⟩
abbrev FnI:Type:=Option (Str×Str×Arguments×FuncBody×Scope×Addr×List Str×Addr)
def Lj (K:Frag) (f:Addr):FnI:=match K.lookup f with
 | some ⟨_,_,.func fd,_⟩=>some (fd.name,fd.qualname,fd.params,fd.body,fd.scope,fd.globals,fd.closure.map (·.1),fd.builtins)
 | _=>none
def Ji (K:Frag) (C f:Addr) (qual file:Str):Bool:=decide (findIn K (.ref C) "__init__" = some (some (.ref f)))&&(decide (typeIn K (.ref f)=some (.type "function"))&&(match K.lookup f with
 | some ⟨_,_,.func fd,_⟩=>(match fd.code,fd.closure with
  | .ref cda,[(_,cc)]=>codeIn K (.ref cda) qual&&((match K.lookup cda with
   | some ⟨_,_,.fields vs,_⟩=>(match (vs[2]?:Option Value) with
    | some (Value.str fl _)=>file==fl
    | _=>false)
   | _=>false)&&((match K.lookup cc with
   | some ⟨_,_,.cell (some (.ref C')),_⟩=>decide (C'=C)
   | _=>false)&&decide (fd.defaults = .none)))
  | _,_=>false)
 | _=>false))
theorem Kv {K:Frag}{P:Program}{C f:Addr}{qual:Str}{params:Arguments}{body:List Stmt}{scope:Scope}(e:Lj K f=(some (("__init__" : Str),qual,params,.stmts body,scope,mainGlobals,[("__class__" : Str)],builtinsNs):FnI)) (h:Ji K C f qual P.main.file=true) :
  ∃fd,XF K P C f qual params body scope fd∧findIn K (.ref C) "__init__" = some (some (.ref f))∧∃kV doc pm an cdv ct cc,fd=ksFn "__init__" qual params body scope .none kV doc pm an cdv ct cc:=by
 unfold Ji at h
 simp only [Bool.and_eq_true,decide_eq_true_eq] at h
 obtain ⟨h1,h2,h3⟩:=h
 unfold Lj at e
 cases q:K.lookup f with
 | none=>rw [q] at h3;cases h3
 | some o=>
  obtain ⟨oc,od,dt,osl⟩:=o
  rw [q] at h3 e
  cases dt with
  | func fd=>
   obtain ⟨n1,n2,n3,n4,n5,n6,n7,n8,n9,n10,n11,n12,n13,n14,n15⟩:=fd
   have e2:(some (n1,n2,n3,n4,n5,n6,n7.map (·.1),n15):FnI)=some (("__init__" : Str),qual,params,FuncBody.stmts body,scope,mainGlobals,[("__class__" : Str)],builtinsNs):=e
   simp only [Option.some.injEq,Prod.mk.injEq] at e2
   obtain ⟨y1,y2,y3,y4,y5,y6,y7,y8⟩:=e2
   subst y1 y2 y3 y4 y5 y6 y8
   dsimp only at h3
   split at h3
   ·rename_i cda nm cc
    simp only [Bool.and_eq_true,decide_eq_true_eq] at h3
    obtain ⟨k1,k2,k3,k4⟩:=h3
    have en:nm=("__class__" : Str):=by
     have:=y7
     simp at this
     exact this
    subst en
    subst k4
    split at k2
    ·rename_i oc2 od2 vs sl2 lca
     split at k2
     ·rename_i fl tf hv
      split at k3
      ·rename_i oc3 od3 C' sl3 lcc
       have k3:=of_decide_eq_true k3
       subst k3
       exact ⟨_,⟨⟨oc,od,n9,n10,n11,n12,cda,n14,osl,cc,_,vs,fl,tf,_,rfl,q,k1,lca,rfl,hv,k2,lcc,rfl⟩,h2⟩,h1,n9,n10,n11,n12,_,n14,cc,rfl⟩
      ·cases k3
     ·cases k2
    ·cases k2
   ·cases h3
  | _=>cases h3
def Sw (K:Frag) (C:Addr):Bool:=xfB K C&&(decide (findIn K (.ref C) "__class__" = some (some (.builtin "object.__class__")))&&(decide (specialIn K (.builtin "object.__class__") "__get__" = some (some (.builtin "getset_descriptor.__get__"))) &&
 (decide (takesIn K (.builtin "object.__class__")=some true)&&decide (mroIn K C (.type "object")=some true))))
theorem Oq {K:Frag}{C:Addr}(h:Sw K C=true):XfC K C∧ExcC K C:=by
 unfold Sw at h
 simp only [Bool.and_eq_true,decide_eq_true_eq] at h
 obtain ⟨h1,h2,h3,h4,h5⟩:=h
 have x:=xfB_ok h1
 exact ⟨x,⟨x.ga,x.gg,x.exC,x.hdC,h2,h3,h4,h5⟩⟩
def clV:V→Option Value
 | .ref C=>some (.ref C)
 | .ty n=>some (.type n)
 | _=>none
theorem abm {c:V}{u:Value}(h:clV c=some u):ClsV c u:=by
 cases c<;>first | (cases h;exact .own _) | (cases h;exact .ty _) | cases h
def VD (rows:List (Addr×V×Bool)):IsT:=fun C c=>(rows.find? fun r=>decide (r.1=C)&&decide (r.2.1=c)).map (·.2.2)
def Wy (K:Frag) (rows:List (Addr×V×Bool)):Bool:=rows.all fun r=>Sw K r.1&&(match clV r.2.1 with
 | some u=>decide (kitOne K (.ref r.1) u=some r.2.2)
 | none=>false)
theorem Vv {K:Frag}{rows:List (Addr×V×Bool)}(h:Wy K rows=true):IsOk K (VD rows):=by
 refine ⟨fun C c b e=> ?_⟩
 unfold VD at e
 cases q:rows.find? fun r=>decide (r.1=C)&&decide (r.2.1=c) with
 | none=>rw [q] at e;cases e
 | some r=>
  rw [q] at e
  cases e
  have hm:=List.mem_of_find?_eq_some q
  have hp:=List.find?_some q
  simp only [Bool.and_eq_true,decide_eq_true_eq] at hp
  obtain ⟨rfl,rfl⟩:=hp
  have z:=List.all_eq_true.mp h r hm
  obtain ⟨z1,z2⟩:=Bool.and_eq_true_iff.mp z
  refine ⟨(Oq z1).2,?_⟩
  cases e2:clV r.2.1 with
  | none=>rw [e2] at z2;cases z2
  | some u=>
   rw [e2] at z2
   exact ⟨u,abm e2,of_decide_eq_true z2⟩
def aae (rows:List (Addr×Str)):Addr→Str→Bool:=fun C f=>rows.any fun r=>decide (r.1=C)&&decide (r.2=f)
def Vj (K:Frag) (rows:List (Addr×Str)):Bool:=rows.all fun r=>Sw K r.1&&decide (findIn K (.ref r.1) r.2=some none)
theorem W9 {K:Frag}{rows:List (Addr×Str)}(h:Vj K rows=true):AtOk K (aae rows):=by
 refine ⟨fun C f e=> ?_⟩
 obtain ⟨r,hm,hp⟩:=List.any_eq_true.mp e
 simp only [Bool.and_eq_true,decide_eq_true_eq] at hp
 obtain ⟨rfl,rfl⟩:=hp
 obtain ⟨z1,z2⟩:=Bool.and_eq_true_iff.mp (List.all_eq_true.mp h r hm)
 exact ⟨(Oq z1).1,of_decide_eq_true z2⟩
structure IniD where
 cls:Str
 qual:Str
 params:Arguments
 body:List Stmt
 scope:Scope
def IniD.at_ (K:Frag) (d:IniD):Addr:=He.fAd K (d.cls,some "__init__")
def IniD.val (d:IniD):FnI:=some ("__init__",d.qual,d.params,.stmts d.body,d.scope,mainGlobals,["__class__"],builtinsNs)
structure TabF (h:Heap) (K:Frag) (p:He.Defn):Prop where
 cd:codeHdIn K (He.cT K p).1 (He.cT K p).2=true
 nk:K.lookup (He.cT K p).2=none
 mt:h.get? (He.cT K p).2=some ({ cls:= .none,data:= .fields #[]}:Obj)
structure SaysP (fa:List He.Fa) (fn:List He.DefD) (ini:List IniD) (tf:List He.Defn) (ex:Frag→Bool) (h:Heap) (K:Frag):Prop where
 d:He.SaysD fa fn K
 more:ex K=true
 tabs:∀p∈tf,TabF h K p
 i:ini.map (fun d=>Lj K (d.at_ K))=ini.map IniD.val
abbrev AlP:Type:=(He.AlD×Bool)×List FnI
theorem WY {h:Heap}{as:List Addr}{tf:List He.Defn}(e:He.tabsB h.get? tf (He.frT h.get? as)=true):∀p∈tf,TabF h (He.frT h.get? as) p:=fun p hp=>by
 obtain ⟨a,b⟩:=Bool.and_eq_true_iff.mp (List.all_eq_true.mp e p hp)
 split at b
 ·rename_i o q
  exact ⟨a,He.frT_none q b,by rw [q,He.emptyTab_eq b]⟩
 ·cases b
theorem SaysP.ini {fa:List He.Fa}{fn:List He.DefD}{ini:List IniD}{tf:List He.Defn}{ex:Frag→Bool}{h:Heap}{K:Frag}(c:SaysP fa fn ini tf ex h K) {d:IniD}(hd:d∈ini):Lj K (d.at_ K)=d.val:=by
 obtain ⟨i,hi,rfl⟩:=List.mem_iff_getElem.mp hd
 have e:=congrArg (fun l=>l[i]?) c.i
 simp only [List.getElem?_map,List.getElem?_eq_getElem hi,Option.map_some,Option.some.injEq] at e
 exact e
end PV
namespace PV
open PySem PySem.W PySem.Calls PyProof.Rows L2 HandSHeadRun
def decA:Nat→Nat→List Addr→List Addr
 | 0,_,l=>l
 | k+1,n,l=>decA k (n/10000) (n%10000::l)
def obsA (as:List Addr) (fa:List He.Fa) (fn:List He.DefD) (ini:List IniD) (tf:List He.Defn) (ex:Frag→Bool) (g:Addr→Option Obj):AlP:=
 ((He.obsD fa fn (He.frT g as),ex (He.frT g as)&&He.tabsB g tf (He.frT g as)),ini.map fun d=>Lj (He.frT g as) (d.at_ (He.frT g as)))
theorem Vc {as:List Addr}{fa:List He.Fa}{fn:List He.DefD}{ini:List IniD}{tf:List He.Defn}{ex:Frag→Bool}{h:Heap}(e:obsA as fa fn ini tf ex h.get?=((He.valD fn,true),ini.map IniD.val)):SaysP fa fn ini tf ex h (He.frT h.get? as):=by
 unfold obsA at e
 obtain ⟨e1,e3⟩:=Prod.mk.inj e
 obtain ⟨e1,e2⟩:=Prod.mk.inj e1
 obtain ⟨e2,e4⟩:=Bool.and_eq_true_iff.mp e2
 exact ⟨e1,e2,WY e4,e3⟩
def hookA (as:List Addr) (fa:List He.Fa) (fn:List He.DefD) (ini:List IniD) (tf:List He.Defn) (ex:Frag→Bool):Hook where
 α:=AlP
 obs:=fun s=>obsA as fa fn ini tf ex s.heap.get?
 val:=fun _=>((He.valD fn,true),ini.map IniD.val)
 says:=fun _ h=>∃K:Frag,K.In h∧SaysP fa fn ini tf ex h K
 of:=fun w h e=>⟨_,He.frT_in,Vc e⟩
 keeps:=fun w h h' ⟨K,hK,c⟩ k=>⟨K,Frag.In.keeps hK k,⟨c.d,c.more,fun p hp=>⟨(c.tabs p hp).cd,(c.tabs p hp).nk,k _ _ (c.tabs p hp).mt⟩,c.i⟩⟩
theorem Y6 {as:List Addr}{fa:List He.Fa}{fn:List He.DefD}{ini:List IniD}{tf:List He.Defn}{ex:Frag→Bool}{g:Addr→Option Obj}{s:Shared}(h:∀a,g a=s.heap.get? a):obsA as fa fn ini tf ex g=(hookA as fa fn ini tf ex).obs s:=by
 have e:g=s.heap.get?:=funext h
 subst e
 rfl
theorem Vi {α A B C:Type}{E:Option α}{f:α→A}{g:α→B}{o:α→C}{a:A}{b:B}{c:C}(h1:E.map (fun s=>(f s,g s))=some (a,b)) (h2:E.map o=some c):E.map (fun s=>(f s,g s,o s))=some (a,b,c):=by
 cases E with
 | none=>cases h1
 | some s=>
  simp only [Option.map_some,Option.some.injEq,Prod.mk.injEq] at h1 h2 ⊢
  exact ⟨h1.1,h1.2,h2⟩
end PV
namespace PV
open PySem PySem.W PySem.Calls PyProof.Rows L2
section
variable {X:Cx}{pins:List (Addr×Obj)}{σ:L2.St}{H:Hp}{s:Shared}{a:Addr}
theorem TJ {o:HO}{oa:Obj}{fv:Array Value}(I:Inv X pins σ H s) (ga:s.heap.get? a=some oa) (fa:oa.data = .fields fv) (na:H a=none) (n0:X.s_0.heap.get? a=none) (nl:a≠X.env.locals) (np:∀p∈X.pn++pins,p.1≠a)
  (ok:ObjOk X.prog X.w (upd H a o) s.heap a o):Inv X pins σ (upd H a o) s:=by
 have h1:∀{b:Addr}{u:Obj},X.s_0.heap.get? b=some u→b≠a:=fun {b u} e z=>by
  rw [z,n0] at e
  cases e
 have h2:∀{b:Addr}{u:HO},H b=some u→upd H a o b=some u:=fun {b u} e=>by
  rw [upd_ne (ne_of_none e na)]
  exact e
 have hc:∀x c,X.env.cells.lookup x=some c→c≠a:=fun x c e z=>by
  obtain ⟨v,oc,g,d⟩:=I.cell x c e
  rw [z,ga] at g
  cases g
  rw [fa] at d
  cases d
 refine ⟨I.ok,I.os,I.bare,⟨I.base.keep,I.base.slot,fun b u e n x=> ?_,I.base.there,fun b xs e=>h2 (I.base.tups b xs e),fun b u y e=>h2 (I.base.frzs b u y e),fun b ps e=> ?_⟩,I.loc,I.cell,?_,fun x c e=> ?_,fun p hp=> ?_,fun b u e=> ?_,I.len⟩
 ·rw [upd_ne (h1 e)]
  exact I.base.free b u e n x
 ·obtain ⟨m,z⟩:=I.base.tbls b ps e
  exact ⟨m,h2 z⟩
 ·rw [upd_ne (Ne.symm nl)]
  exact I.free
 ·rw [upd_ne (hc x c e)]
  exact I.freeC x c e
 ·obtain ⟨p1,p2,p3⟩:=I.pin p hp
  refine ⟨p1,?_,p3⟩
  rw [upd_ne (np p hp)]
  exact p2
 ·by_cases hb:b=a
  ·subst hb
   rw [upd_same] at e
   cases e
   exact ok
  ·rw [upd_ne hb] at e
   exact (I.hok b u e).stay (fun c v _ q=>q) (fun c q=>h2 q) fun c xs q=>h2 q
theorem HW {f:Heap→Prop}(I:Inv X pins σ H s) (ha:H a=some (.ext f)) (n0:X.s_0.heap.get? a=none) :
  ∃Z:Heap,(∀b o,Z.get? b=some o→s.heap.get? b=some o)∧Z.get? a=none∧Inv X pins σ (delH H a) { s with heap:=Z}:=by
 obtain ⟨Z,z1,z2⟩:=restrict s.heap fun b=>decide (b≠a)
 have za:Z.get? a=none:=z2 a (by simp)
 have zk:∀{b:Addr}{o:Obj},b≠a→s.heap.get? b=some o→Z.get? b=some o:=fun {b o} hb e=>(z1 b (decide_eq_true hb)).trans e
 have zs:∀b o,Z.get? b=some o→s.heap.get? b=some o:=fun b o e=>by
  have hb:b≠a:=fun q=>by
   rw [q,za] at e
   cases e
  exact (z1 b (decide_eq_true hb)).symm.trans e
 have q0:∀{b:Addr}{o:Obj},X.s_0.heap.get? b=some o→b≠a:=fun {b o} e q=>by
  rw [q,n0] at e
  cases e
 have qn:∀{b:Addr},H b=none→b≠a:=fun {b} e q=>by
  rw [q,ha] at e
  cases e
 have qs:∀{b:Addr}{o:HO},H b=some o→(∀g,o ≠ .ext g)→b≠a:=fun {b o} e n q=>by
  rw [q,ha] at e
  cases e
  exact n _ rfl
 have dl:∀{b:Addr}{o:HO},H b=some o→(∀g,o ≠ .ext g)→delH H a b=some o:=fun {b o} e n=>by
  rw [delH_ne (qs e n)]
  exact e
 have dn:∀{b:Addr},H b=none→delH H a b=none:=fun {b} e=>by
  rw [delH_ne (qn e)]
  exact e
 have zc:∀{x:Str}{c:Addr},X.env.cells.lookup x=some c→∀{v:Option Value},s.heap.IsCell c v→Z.IsCell c v:=fun {x c} e {v} z=>by
  obtain ⟨o,ho,d⟩:=z
  exact ⟨o,zk (qn (I.freeC x c e)) ho,d⟩
 refine ⟨Z,zs,za,⟨I.ok,I.os,I.bare,?_,?_,fun x c e=> ?_,dn I.free,fun x c e=>dn (I.freeC x c e),fun p hp=> ?_,fun b u e=> ?_,I.len⟩⟩
 ·refine ⟨fun b o e n f x=>zk (q0 e) (I.base.keep b o e n f x),fun b o e n f x=> ?_,fun b o e n x=>dn (I.base.free b o e n x),fun b o e x=> ?_,fun b xs e=>dl (I.base.tups b xs e) (fun g z=>by cases z),fun b o u e=>dl (I.base.frzs b o u e) (fun g z=>by cases z),fun b ps e=> ?_⟩
  ·obtain ⟨sl,q⟩:=I.base.slot b o e n f x
   exact ⟨sl,zk (q0 e) q⟩
  ·obtain ⟨o2,q⟩:=I.base.there b o e x
   exact ⟨o2,zk (q0 e) q⟩
  ·obtain ⟨m,q⟩:=I.base.tbls b ps e
   exact ⟨m,dl q (fun g z=>by cases z)⟩
 ·obtain ⟨m,hn,hl⟩:=I.loc
  obtain ⟨o,es,ep,ho,r⟩:=hn
  refine ⟨m,⟨o,es,ep,zk (qn I.free) ho,r⟩,fun i x v e1 e2 e3=> ?_⟩
  obtain ⟨u,r2,l⟩:=hl i x v e1 e2 e3
  refine ⟨u,r2,?_⟩
  rcases l with l | ⟨k,c,ec,z⟩
  ·exact Or.inl l
  ·exact Or.inr ⟨k,c,ec,zc ec z⟩
 ·obtain ⟨v,z⟩:=I.cell x c e
  exact ⟨v,zc e z⟩
 ·obtain ⟨p1,p2,p3⟩:=I.pin p hp
  exact ⟨zk (qn p2) p1,dn p2,p3⟩
 ·have hb:b≠a:=fun z=>by
   rw [z,delH_same] at e
   cases e
  rw [delH_ne hb] at e
  refine (I.hok b u e).stay (fun c v hc q=>zk ?_ q) (fun c q=>dl q (fun g z=>by cases z)) fun c xs q=>dl q (fun g z=>by cases z)
  rcases hc with z | z
  ·rw [z]
   exact hb
  ·exact qs z (fun g z=>by cases z)
end
variable {G:Gd}
section
variable {X:Cx}{Wx:WX}{pins:List (Addr×Obj)}{σ:L2.St}{H:Hp}{s:Shared}{C fI:Addr}{ns ps:List Str}{fd:FuncData}{k:Nat}{e:Expr}{es:List Expr}{ms:bJ (List D)}{x:Str}{p pos pos':Pos}
def rzQ (C:Addr) (ns:List Str) (ys:List V) (H:Hp) (Q:XK):Prop:=(ns=[]→Q (.ref C) none H)∧(ns≠[]→∀dx,H dx=none→Q (.ref C) (some dx) (upd H dx (.xd (ns.zip ys).reverse)))
theorem ZP {Q:XK}{us bs:List Value}{kw:List (Str×Value)}{ys:List V}(T:XI X C ns ps k fI fd) (hr:Room (k+1) X.A) (tk:Takes X Wx) (hex:X.ex=[]) (I:Inv X pins σ H s) (hus:us.length≤sizeLine)
  (hb:∀(s:Shared) (a:Addr),X.K.In s.heap→BindsTo s fd ⟨.ref a::us,kw⟩ (ps.zip (.ref a::bs))) (rb:Vals ys bs) (hl:ys.length=ns.length) (q:rzQ C ns ys H Q) :
  wpAny (model X.prog X.w) X.A (call (.ref C) us kw) (MkP X pins σ Q) X.xe s:=by
 have rs:Raises X (.ref C):=by
  obtain ⟨_,_,_,_,TC⟩:=T.cl
  exact raises_own TC.exC TC.tyC
 refine ZL T hr tk I hus hb rb hl fun x s' hn hge=> ?_
 have n0:X.s_0.heap.get? x=none:=by
  cases e:X.s_0.heap.get? x with
  | none=>rfl
  | some o=>
   obtain ⟨o',z⟩:=I.base.there x o e (by rw [hex];simp)
   exact absurd (Heap.lt_size z) (Nat.not_lt.mpr hge)
 refine ⟨fun e I3=> ?_,fun e dx z ne I3=> ?_⟩
 ·obtain ⟨t1,ho⟩:=exo_at I3.hok upd_same
  obtain ⟨Z,zs,za,J⟩:=HW (a:=x) I3 (by rw [upd_same];rfl) n0
  rw [delH_new hn] at J
  exact ⟨x,_,_,{ s' with heap:=Z},H,.ref C,none,rfl,J,zs,za,ho,⟨rfl,rfl⟩,rfl,rfl,hn,rfl,I3.bare,rs,q.1 e⟩
 ·obtain ⟨t1,ho⟩:=exo_at I3.hok upd_same
  have hx:upd H dx (.xd (ns.zip ys).reverse) x=none:=by
   rw [upd_ne (Ne.symm ne)]
   exact hn
  obtain ⟨Z,zs,za,J⟩:=HW (a:=x) I3 (by rw [upd_same];rfl) n0
  rw [delH_new hx] at J
  exact ⟨x,_,_,{ s' with heap:=Z},_,.ref C,some dx,rfl,J,zs,za,ho,⟨rfl,rfl⟩,rfl,rfl,hx,rfl,I3.bare,rs,q.2 e dx z⟩
theorem acT {t:TA}(T:XI X C ns ps k fI fd) (hr:Room (k+1) X.A) (tk:Takes X Wx) (hex:X.ex=[]) (hg:Gl X x) (hm:X.mg x=some (.ref C)) (hkp:keepIn X.K (.ref C)=true) (hb:∀(s:Shared) (us:List Value),X.K.In s.heap→us.length=ns.length+1→BindsTo s fd ⟨us,[]⟩ (ps.zip us)) (hn:ns.length≤10)
  (pt:PA X (e::es) t) (hdb:(x==("__debug__" : Str))=false:=by decide) (he:starEach (e::es) X.env=(false,eval e X.env)::starEach es X.env:=by rfl) (hpl:(backTo pos (starEach es X.env)).any (·.1)=false:=by rfl) :
  PMk X (.Call (.Name x p) (e::es) [] pos) (fun σ H Q=>t σ H fun vs H1=>vs.length=ns.length∧rzQ C ns vs H1 Q):=by
 intro pins s σ H Q I h
 refine wpAny_Call_Name_kw (ld_glob I hg hm ?_ hdb)
 refine callWith_K (h₀:=X.base) I.ok.mod.kin hkp (thn (pt.run pos pins s σ H _ I h) fun us s1 ⟨vs,H1,I1,r1,hl,q1⟩=>⟨I1.kIn,?_⟩) he hpl
 show wpAny _ _ (call (.ref C) us) _ _ _
 have lu:us.length=ns.length:=(Paired.length r1).symm.trans hl
 exact ZP T hr tk hex I1 (by rw [lu,sizeLine_eq];omega) (fun s a X'=>hb s (.ref a::us) X' (by simp [lu])) r1 hl q1
end
def aeB (G:Gd) (W:Wd) (K:Frag) (Wx:WX) (B0 H0 B H:Hp) (σ:L2.St) (r:Res Fl) (D:Ends):Prop:=match r with
 | .exc C fs s'=>∀(od:Option Addr) (B' H':Hp),Gr W B H B' H'→W.ok s' B' H'→XFl K B' od fs→Wx (.ref C) od σ H'
 | .ok f s'=>jO G W K Wx B0 H0 (.ok f s') D
 | .stuck=>False
def acL (G:Gd) (K:Frag) (Wx:WX) (m:MS) (t:TS):Prop:=∀(W:Wd) (B0 H0:Hp) (σ:L2.St) (B H:Hp) (ls:List Sl) (s:DS) (D:Ends),Gr W B0 H0 B H→W.ok s B H→Sm G W K H0 B H σ ls→aeB G W K Wx B0 H0 B H σ (m ls s) D→t D σ H
structure SX (G:Gd) (X:Cx) (Wx:WX) (st:Stmt) (m:MS):Prop where
 ex:∃t,PS X st t∧acL G X.K Wx m t
theorem SX.ss {X:Cx}{Wx:WX}{st:Stmt}{m:MS}(h:SX G X Wx st m):SS G X Wx st m:=by
 obtain ⟨t,pt,ht⟩:=h.ex
 refine ⟨t,pt,fun W B0 H0 σ B H ls s D g w sm h=>ht W B0 H0 σ B H ls s D g w sm ?_⟩
 cases e:m ls s with
 | stuck=>rw [e] at h;exact h
 | exc C fs s'=>
  rw [e] at h
  exact fun od B' H' g' w' x=>h od σ B' H' (g.trans g') w' x
 | ok f s'=>rw [e] at h;exact h
section
variable {X:Cx}{Wx:WX}{e:Expr}{es:List Expr}{me:bJ D}{ms:bJ (List D)}{pos p:Pos}{k:Nat}{x:Str}{C:Addr}{ns ks:List Str}
theorem aa2 {i:Nat}{pos':Pos}(hN:X.N.Nodup) (he:SE G X Wx e me) (hi:X.N[i]?=some x:=by rfl) (hx:Loc X.env.scope x:=by first | exact Or.inl rfl | exact Or.inr rfl) (hs:swapsWith e (some (.Name x pos')) pos.line X.env=pure false:=by rfl)
  (hf:X.fn x=true∨X.env.scope.names.lookup x=some .local:=by first | exact .inl rfl | exact .inr rfl | assumption):SX G X Wx (.Assign [.Name x pos'] e pos) (fun ls=>bnd (me ls) fun d=>ret (.nx (ls.set i (.va d)))):=by
 obtain ⟨t,pt,ht⟩:=he.ex
 refine ⟨_,ps_set hN hi hx pt hs hf,fun W B0 H0 σ B H ls s D g w sm h=>ht W H0 σ B H ls s _ g.kn w sm ?_⟩
 dsimp only at h
 cases e1:me ls s with
 | stuck=>rw [aO e1] at h;exact h
 | exc C fs s'=>rw [aC e1] at h;exact h
 | ok d s1=>
  rw [aP e1] at h
  exact fun v B1 H1 g1 w1 r1=>h _ B1 H1 (g.trans g1) w1 ((sm.grow g1).wg r1)
def UW (d:D):M Fl:=match d with
 | .exc C fs=>thr C fs
 | _=>stk
theorem ExC.rz {pos':Pos}(T:ExC X.prog X.w X.K X.mg X.base x C ns ks) (hc:X.calm=true) (hr:Room (k+2) X.A) (tk:Takes X Wx) (hex:X.ex=[]) (hg:Gl X x) (ha:SA G X Wx (e::es) ms) (hn:ns.length≤10:=by decide) (hdb:(x==("__debug__" : Str))=false:=by decide)
  (he:starEach (e::es) X.env=(false,eval e X.env)::starEach es X.env:=by rfl) (hpl:(backTo pos (starEach es X.env)).any (·.1)=false:=by rfl):SX G X Wx (.Raise (some (.Call (.Name x p) (e::es) [] pos)) none pos') (fun ls=>bnd (ms ls) fun ds=>bnd (Uv C ns ds) UW):=by
 obtain ⟨fI,fd,ps,c,i,t,o,b1,b2⟩:=T.ex
 obtain ⟨ta,pa,ha⟩:=ha.ex
 refine ⟨_,ps_raise hc tk (acT ⟨c,i,t,o⟩ (hr.mono (by omega)) tk hex hg T.gm T.kp (fun s us _ l=>b1 s us l) hn pa hdb he hpl),fun W B0 H0 σ B H ls s D g w sm h=>ha W H0 σ B H ls s _ g.kn w sm ?_⟩
 dsimp only at h
 cases e1:ms ls s with
 | stuck=>rw [aO e1] at h;exact h
 | exc C fs s'=>rw [aC e1] at h;exact h
 | ok ds s1=>
  rw [aP e1] at h
  intro vs B1 H1 g1 w1 r1
  unfold Uv at h
  split at h
  ·rename_i hl
   have h:∀(od:Option Addr) (B' H':Hp),Gr W B H B' H'→W.ok s1 B' H'→XFl X.K B' od (ns.zip ds).reverse→Wx (.ref C) od σ H':=h
   have el:=r1.len
   have ez:=Le (l:=ns) (r:=ds) hl.symm
   refine ⟨by rw [el];exact hl,fun en=> ?_,fun en dx hd=> ?_⟩
   ·subst en
    exact h none B1 H1 g1 w1 ⟨[],[],[],rfl,rfl,.nil,rfl⟩
   ·have g2:=Gr.new (o:=HO.xd (ns.zip vs).reverse) g1.kn w1 hd
    refine h (some dx) _ _ (g1.trans g2) (w1.nw g1.kn hd) ⟨ns.reverse,vs.reverse,ds.reverse,?_,by simp [el,hl],(r1.mono g2.bb).rev,ez⟩
    show upd _ dx _ dx=_
    rw [upd_same,Le (by rw [el,hl])]
  ·exact (show False from h).elim
end
variable {G:Gd}
def Q5 (X:Cx) (t:Expr) (m:Value→Option Bool):Prop:=∀(a:Addr) (oe:Obj) (pn:List (Addr×Obj)) (σ:L2.St) (H:Hp) (s:Shared) (cls:Value) (b:Bool) (Q:Bool→Shared→Prop) (E:Value→Shared→Prop),Inv (X.suite a ((a,oe)::pn)) [] σ H s→oe.cls=cls→m cls=some b →
 (∀h':Heap,(∀c o,s.heap.get? c=some o→h'.get? c=some o)→Q b { s with heap:=h'})→wpAny (model X.prog X.w) (X.A.mark (some (.ref a))) (eval t X.env) (fun c s1=>wpAny (model X.prog X.w) (X.A.mark (some (.ref a))) (excMatches (.ref a) c) Q E s1) E s
section
variable {X:Cx}
theorem YF {a:Addr}{oe:Obj}{pn:List (Addr×Obj)}{σ:L2.St}{H:Hp}{s:Shared}{cls:Value}(I:Inv (X.suite a ((a,oe)::pn)) [] σ H s) (hc:oe.cls=cls):Looks (model X.prog X.w) s.heap (typeOf (.ref a)) cls:=fun A Q E s2 k q=>by
 obtain ⟨ga,_⟩:=I.pin (a,oe) (List.mem_append_left _ List.mem_cons_self)
 exact wpAny_typeOf_ref (k _ _ ga) (by rw [hc];exact q)
theorem test2 {x1 x2:Str}{p1 p2 tp:Pos}{kk:Nat}{C1 C2:Addr}(g1:Gl X x1) (m1:X.mg x1=some (.ref C1)) (g2:Gl X x2) (m2:X.mg x2=some (.ref C2)) (d1:(x1==("__debug__" : Str))=false:=by decide) (d2:(x2==("__debug__" : Str))=false:=by decide) :
  Q5 X (.Tuple [.Name x1 p1,.Name x2 p2] kk tp) (fun cls=>exmAny X.K cls [.ref C1,.ref C2]):=fun a oe pn σ H s cls b Q E I hc hb q=>by
 refine wpAny_Tuple (wpAny_items_cons (ld_glob (X:=X.suite a ((a,oe)::pn)) I g1 m1 (wpAny_items_cons (ld_glob (X:=X.suite a ((a,oe)::pn)) I g2 m2 (wpAny_items_nil ⟨by size_fits,?_⟩) d2)) d1))
 have up:∀c o,s.heap.get? c=some o→(s.heap.push ({ cls:= .type "tuple",data:= .seq [Value.ref C1,Value.ref C2].toArray}:Obj)).get? c=some o:=fun _ _ z=>Heap.get?_push_of_some _ z
 exact (exm_tup2 (I.kIn.keeps up) ((YF I hc).keeps up) (Heap.get?_push_size s.heap rfl) hb).here (q _ up)
end
def acW (m:Value→Option Bool) (i j:Nat) (Wout:WX) (D:Ends):WX:=fun cls d σ H=>∃b,m cls=some b ∧
 (b=true→∃C,cls = .ref C∧∀a,H a=none→D.nx (((σ.set i (some (.ref a))).set j (some (.ref a))).set i none) (upd H a (xlo a C d)))∧(b=false→Wout cls d σ H)
theorem TQ {B h h':Heap}{l:List Env}{a:Addr}{Z:Obj→Prop}(x:HandSPX.FlyingZ B l a Z h) (k:∀c o,h.get? c=some o→h'.get? c=some o):HandSPX.FlyingZ B l a Z h':=by
 obtain ⟨x1,x2,x3,oe,vs,T,oT,ts,y1,y2,y3,y4,y5,y6,y7,y8,y9⟩:=x
 exact ⟨fun b o e=>k b o (x1 b o e),x2,x3.of_keeps fun b o e _=>⟨o,k b o e,rfl⟩,oe,vs,T,oT,ts,k _ _ y1,y2,y3,y4,y5,y6,k _ _ y7,y8,y9⟩
section
variable {X:Cx}{y n:Str}{i j:Nat}{body:List Stmt}{t:Expr}{m:Value→Option Bool}{p1 p2 p3 pos pos':Pos}{tb:WX→TS}{Wout:WX}
theorem ZD (hs:X.stack=X.env::X.outer) (hf:X.env.frame=some X.env.locals) (hex:X.ex=[]) (hN:X.N.Nodup) (hi:X.N[i]?=some n) (hln:X.env.kindOf n=some .local) (hj:X.N[j]?=some y) (hly:X.env.kindOf y=some .local) (ht:Q5 X t m) (tk:Takes X Wout)
  (hsw:swapsWith (.Name n p2) (some (.Name y p1)) p3.line X.env=pure false) (hd:(n==("__debug__" : Str))=false) (hcd:(n==("__classdict__" : Str))=false)
  (hb:∀(W:WX) (pn:List (Addr×Obj)) (xe:Value→Shared→Prop),Takes (X.tr pn xe) W→PassesOwn (model X.prog X.w) X.A X.env xe→PSs (X.tr pn xe) body (tb W)) :
  PS X (.Try body [.ExceptHandler (some t) (some n) [.Assign [.Name y p1] (.Name n p2) p3] pos'] [] [] pos) (fun D σ H=>tb (acW m i j Wout D) D σ H):=by
 refine ⟨fun pins s σ H D I h=> ?_⟩
 have ok:=I.ok
 have fr:X.A.frames=some (X.env::X.outer):=ok.frames.trans (congrArg some hs)
 refine wpAny_Try_except (wpAny_mono ((hb (acW m i j Wout D) (X.pn++pins) _ (fun u s' xx=> ?_) PassesOwn.looking).run [] s σ H D (I.toTry _) h) (fun f s1 hsp=> ?_) (fun e s1 he=>he))
 ·obtain ⟨a,B,sI,pins',σ',H',cls,d,rfl,J',nb,up,sky,na,os,ag,b,hb1,hyes,hno⟩:=xx
  have J:Inv X pins σ' H' sI:=J'.ofTry ok
  rw [show (X.tr (X.pn++pins) _).stack=X.env::X.outer from hs] at sky
  refine Sky.land Zc.steady fr hf sky fun h3 fl3 up3=> ?_
  have J3:Inv X pins σ' H' { s' with heap:=h3}:=J.landed nb fl3.1 (up.trans up3) os ag
  obtain ⟨o3,v3,g3,z3,d3⟩:=fl3.there
  have nfr:a∉frs (X.env::X.outer):=fun hm=>by
   obtain ⟨_,o',e',hnf⟩:=fl3.2.2.1.mem hm
   rw [g3] at e'
   cases e'
   exact hnf _ d3
  have nL:a≠X.env.locals:=fun z=>nfr (List.mem_filterMap.mpr ⟨X.env,List.mem_cons_self,hf.trans (congrArg some z.symm)⟩)
  have nF:a∉X.fs:=fun hm=>by
   obtain ⟨e,he,q⟩:=List.mem_filterMap.mp hm
   exact nfr (List.mem_filterMap.mpr ⟨e,List.mem_cons_of_mem _ he,q⟩)
  have nB:∀{b:Addr}{o:Obj},sI.heap.get? b=some o→b∉frs X.stack→b≠a:=fun {b o} e n z=>by
   have q:=nb b o e n
   rw [z,fl3.2.1] at q
   cases q
  have n0:X.s_0.heap.get? a=none:=by
   cases e:X.s_0.heap.get? a with
   | none=>rfl
   | some o=>
    obtain ⟨o',z⟩:=J.base.there a o e (by rw [hex];simp)
    exact absurd rfl (nB z (by rw [hs];exact nfr))
  have np:∀p∈X.pn++pins,p.1≠a:=fun p hp=>by
   obtain ⟨q1,_,q3,q4,_⟩:=J.pin p hp
   refine nB q1 fun z=> ?_
   rcases List.mem_cons.mp (J.stkSub _ z) with e | e
   ·exact q3 e
   ·exact q4 e
  have S3:=J3.suite g3 d3 na nL nF
  refine wpAny_handleBy_cons (codeAny_handlers_test (ht a o3 _ σ' H' _ cls b _ _ S3 z3.1 hb1 fun h5 k5=> ?_)) (by intro q;cases q)
  have fl5:=TQ fl3 k5
  have up5:sI.heap.UpToSlots h5:=(up.trans up3).trans fun c o e _=>⟨o.slots,k5 c o e⟩
  cases b with
  | true=>
   obtain ⟨C,eC,yes⟩:=hyes rfl
   subst eC
   refine codeAny_handlers_suite_as (HandSPX.lands_againZ fl5 fun h4 fl4 up4=> ?_)
   have J4:Inv X pins σ' H' { s' with heap:=h4}:=J.landed nb fl4.1 (up5.trans up4) os ag
   obtain ⟨o4,v4,g4,z4,d4⟩:=fl4.there
   refine store_ok (X:=X.suite a ((a,o4)::(X.pn++pins))) (v:= .ref a) (J4.suite g4 d4 na nL nF) hN hi (.inl hln) rfl (fun s5 S5=> ?_) (.inr hln)
   have pst:=pss_one (ps_set (X:=X.suite a ((a,o4)::(X.pn++pins))) (pos:=p3) hN hj (Or.inl hly) (pe_var (pos:=p2) hi (Or.inl hln) hd hcd) hsw (.inr hly))
   have hlt:i<σ'.length:=by
    have:=(List.getElem?_eq_some_iff.mp hi).1
    rw [J.len]
    exact this
   refine wpAny_mono (pst.run [] s5 _ H' { nx:=fun σ6 H6=>σ6=((σ'.set i (some (.ref a))).set j (some (.ref a)))∧H6=H',rt:=fun _ _=>False} S5 ⟨.ref a,by rw [List.getElem?_set_self hlt],rfl,rfl⟩) (fun f s6 hsp=> ?_) (fun _ _ z=>False.elim z)
   cases f with
   | next=>
    obtain ⟨σ6,H6,S6,e6,e7⟩:=hsp
    subst e6 e7
    have J6:Inv X ((a,o4)::pins) ((σ'.set i (some (.ref a))).set j (some (.ref a))) H6 s6:=⟨ok,S6.os,S6.bare,S6.base,S6.loc,S6.cell,S6.free,S6.freeC,fun p hp=>S6.pin p (List.mem_append_left _ (by
     rcases List.mem_append.mp hp with z | z
     ·exact List.mem_cons_of_mem _ (List.mem_append_left _ z)
     ·rcases List.mem_cons.mp z with z | z
      ·rw [z];exact List.mem_cons_self
      ·exact List.mem_cons_of_mem _ (List.mem_append_right _ z))),S6.hok,S6.len⟩
    refine gone_ok J6 hN hi hln fun s7 J7=> ?_
    obtain ⟨g7,n7,_⟩:=J7.pin (a,o4) (List.mem_append_right _ List.mem_cons_self)
    have J8:Inv X pins (((σ'.set i (some (.ref a))).set j (some (.ref a))).set i none) H6 s7:=⟨J7.ok,J7.os,J7.bare,J7.base,J7.loc,J7.cell,J7.free,J7.freeC,fun p hp=>J7.pin p (by
     rcases List.mem_append.mp hp with z | z
     ·exact List.mem_append_left _ z
     ·exact List.mem_append_right _ (List.mem_cons_of_mem _ z)),J7.hok,J7.len⟩
    obtain ⟨oc,od,dt,sl⟩:=o4
    obtain ⟨z41,z42⟩:=z4
    dsimp only at z41 z42 d4
    subst z41 z42 d4
    exact ⟨_,_,TJ (o:=xlo a C od) J8 g7 rfl n7 n0 nL np (ab1 g7),yes a na⟩
   | brk=>obtain ⟨_,_,_,z⟩:=hsp;exact (show False from z).elim
   | cont=>obtain ⟨_,_,_,z⟩:=hsp;exact (show False from z).elim
   | ret u=>obtain ⟨_,_,_,_,_,z⟩:=hsp;exact (show False from z).elim
  | false=>
   show wpAny _ X.A (handleBy (.ref a) X.env []) _ _ _
   refine wpAny_handleBy_nil ?_
   obtain ⟨_,_,_,oe,vs,T,oT,ts',he,hz,hdd,h1,_⟩:=id fl5
   unfold PySem.passOn
   refine wpAny_bind (wpAny_field he hdd h1 ?_)
   rw [if_neg (show ¬((Value.ref T==Value.none)=true) from by simp)]
   have fin:wpAny (model X.prog X.w) X.A (setFlight (.ref a) X.env.frame) (fun _ s4=>wpAny (model X.prog X.w) X.A (throw (.ref a):Sem Flow) (SP X pins D) X.xe s4) X.xe { s' with heap:=h5}:=by
    rw [hf]
    refine HandSPX.setFlight_upZ fl5 fun h4 hh4 up4=>wpAny_throw (tk _ _ ?_)
    exact ⟨a,B,sI,pins,σ',H',cls,d,rfl,J,nb,up5.trans up4,.inr (.inr (by rw [hs];exact hh4)),na,os,ag,hno rfl⟩
   first
    | exact wpAny_bind (wpAny_pure (wpAny_bind fin))
    | exact wpAny_bind fin
 ·cases f with
  | next=>
   obtain ⟨σ',H',J',q⟩:=hsp
   exact wpAny_execs_nil ⟨σ',H',J'.ofTry ok,q⟩
  | brk=>
   obtain ⟨σ',H',J',q⟩:=hsp
   exact ⟨σ',H',J'.ofTry ok,q⟩
  | cont=>
   obtain ⟨σ',H',J',q⟩:=hsp
   exact ⟨σ',H',J'.ofTry ok,q⟩
  | ret u=>
   obtain ⟨v,σ',H',J',r,q⟩:=hsp
   exact ⟨v,σ',H',J'.ofTry ok,r,q⟩
theorem PS.imp {st:Stmt}{t t':TS}(h:PS X st t) (q:∀D σ H,t' D σ H→t D σ H):PS X st t':=⟨fun pins s σ H D I z=>h.run pins s σ H D I (q D σ H z)⟩
def Ql (mb:MS) (mc:Addr→Option Bool) (i j:Nat):MS:=fun ls s=>match mb ls s with
 | .exc C fs s'=>(match mc C with
  | some true=> .ok (.nx (((ls.set i .un).set j (.va (.exc C fs))).set i .un)) s'
  | some false=> .exc C fs s'
  | none=> .stuck)
 | r=>r
theorem ab0 {st:Stmt}{Wx:WX}{mb:MS}{mc:Addr→Option Bool}(hs:X.stack=X.env::X.outer) (hf:X.env.frame=some X.env.locals) (hex:X.ex=[]) (hN:X.N.Nodup) (tk:Takes X Wx) (ht:Q5 X t m) (hm:∀C b,mc C=some b→m (.ref C)=some b)
  (hb:∀(W:WX) (pn:List (Addr×Obj)) (xe:Value→Shared→Prop),Takes (X.tr pn xe) W→PassesOwn (model X.prog X.w) X.A X.env xe→SX G (X.tr pn xe) W st mb)
  (hi:X.N[i]?=some n:=by rfl) (hln:X.env.kindOf n=some .local:=by rfl) (hj:X.N[j]?=some y:=by rfl) (hly:X.env.kindOf y=some .local:=by rfl) (hsw:swapsWith (.Name n p2) (some (.Name y p1)) p3.line X.env=pure false:=by rfl) (hd:(n==("__debug__" : Str))=false:=by decide) (hcd:(n==("__classdict__" : Str))=false:=by decide) :
  SS G X Wx (.Try [st] [.ExceptHandler (some t) (some n) [.Assign [.Name y p1] (.Name n p2) p3] pos'] [] [] pos) (Ql mb mc i j):=by
 have ps:=ZD (pos:=pos) (pos':=pos') (p1:=p1) (p2:=p2) (p3:=p3) (tb:=fun W D σ H=>∀t,acL G X.K W mb t→t D σ H) hs hf hex hN hi hln hj hly ht tk hsw hd hcd fun W pn xe h1 h2=>by
  obtain ⟨t,pt,h⟩:=(hb W pn xe h1 h2).ex
  exact pss_one (PS.imp pt fun D σ H z=>z t h)
 refine ⟨_,ps,fun W B0 H0 σ B H ls s D g w sm h u hu=> ?_⟩
 refine hu W B0 H0 σ B H ls s D g w sm ?_
 unfold Ql at h
 cases e:mb ls s with
 | stuck=>rw [e] at h;exact h
 | ok f s'=>rw [e] at h;cases f<;>exact h
 | exc C fs s'=>
  rw [e] at h
  dsimp only at h
  intro od B1 H1 g1 w1 x1
  cases ec:mc C with
  | none=>rw [ec] at h;exact (show False from h).elim
  | some b=>
   rw [ec] at h
   refine ⟨b,hm C b ec,fun hb=> ?_,fun hb=> ?_⟩
   ·subst hb
    refine ⟨C,rfl,fun a ha=> ?_⟩
    have g2:=Gr.new (o:=xlo a C od) g1.kn w1 ha
    have g3:=g1.trans g2
    obtain ⟨ns,vs,ds,y1,y2,y3,y4⟩:=x1
    have dv:Dv X.K (upd B1 a (xlo a C od)) (.ref a) (.exc C fs):=by
     rw [y4]
     exact .exc upd_same (g2.bb.xd y1) y2 (y3.mono g2.bb)
    exact h _ _ _ (g.trans g3) (w1.nw g1.kn ha) ((((sm.grow g3).Qn).wg dv).Qn)
   ·subst hb
    exact h od σ B1 H1 (g.trans g1) w1 x1
end
variable {G:Gd}
section
variable {X:Cx}{Wx:WX}{pos:Pos}{ms:bJ (List D)}
def abd (i j:Nat) (ls:List Sl) (ds:List D):M Fl:=match ds with
 | [a,b]=>ret (.nx ((ls.set i (.va a)).set j (.va b)))
 | _=>stk
theorem aaW {i j:Nat}{x y:Str}{a b:Expr}{px py pt:Pos}{kt k2 pt2} (hc:X.calm=true) (hN:X.N.Nodup) (ha:SA G X Wx [a,b] ms) (hi:X.N[i]?=some x:=by rfl) (hj:X.N[j]?=some y:=by rfl) (hij:i≠j:=by decide)
  (hx:X.env.scope.names.lookup x=some .local:=by rfl) (hy:X.env.scope.names.lookup y=some .local:=by rfl)
  (hw:swappedStores [.Tuple [.Name x px,.Name y py] kt pt] (.Tuple [a,b] k2 pt2) X.env=pure (some [x,y]):=by rfl)
  (hs:swapsWithSole [.Tuple [.Name x px,.Name y py] kt pt] (.Tuple [a,b] k2 pt2) pos.line X.env=pure false:=by rfl) :
  SS G X Wx (.Assign [.Tuple [.Name x px,.Name y py] kt pt] (.Tuple [a,b] k2 pt2) pos) (fun ls=>bnd (ms ls) (abd i j ls)):=by
 obtain ⟨t,pt,ht⟩:=ha.ex
 refine ⟨_,ps_par hc hN hi hj hij hx hy pt hw hs,fun W B0 H0 σ B H ls s D g w sm h=>ht W H0 σ B H ls s _ g.kn w sm ?_⟩
 cases e1:ms ls s with
 | stuck=>rw [aO e1] at h;exact h
 | exc C fs s'=>
  rw [aC e1] at h
  exact fun od B' H' g' w' x=>h od σ B' H' (g.trans g') w' x
 | ok ds s1=>
  rw [aP e1] at h
  intro vs B1 H1 g1 w1 r1
  unfold abd at h
  split at h
  ·cases r1 with
   | cons a1 r1=>
    cases r1 with
    | cons a2 r1=>
     cases r1
     exact ⟨_,_,rfl,h _ B1 H1 (g.trans g1) w1 (((sm.grow g1).wg a1).wg a2)⟩
  ·exact (show False from h).elim
end
section
variable {X:Cx}{Wx:WX}{pos:Pos}{x:Str}
theorem nQ {i:Int}(hg:Gl X x) (hm:∃t,X.mg x=some (.int i t)) (hd:(x==("__debug__" : Str))=false:=by decide):SE G X Wx (.Name x pos) (fun _=>ret (.int i)):=by
 obtain ⟨t,h⟩:=hm
 exact gM (v:= .int i) hg h ⟨t,rfl⟩ (fun _=> .int i) hd
theorem dw {z:Str}(hg:Gl X x) (hm:∃t,X.mg x=some (.str z t)) (hd:(x==("__debug__" : Str))=false:=by decide):SE G X Wx (.Name x pos) (fun _=>ret (.str z)):=by
 obtain ⟨t,h⟩:=hm
 exact gM (v:= .str z) hg h ⟨t,rfl⟩ (fun _=> .str z) hd
end
def Lg (rows:List (Addr×Bool)):Addr→Option Bool:=fun C=>(rows.find? fun r=>decide (r.1=C)).map (·.2)
def aaw (K:Frag) (c d:Addr) (rows:List (Addr×Bool)):Bool:=rows.all fun r=>decide (exmAny K (.ref r.1) [.ref c,.ref d]=some r.2)
theorem UJ {rows:List (Addr×Bool)}{C:Addr}{b:Bool}(h:Lg rows C=some b):(C,b)∈rows:=by
 unfold Lg at h
 cases e:rows.find? fun r=>decide (r.1=C) with
 | none=>rw [e] at h;cases h
 | some r=>
  rw [e] at h
  cases h
  have h1:=List.mem_of_find?_eq_some e
  have h2:r.1=C:=by simpa using List.find?_some e
  subst h2
  exact h1
theorem W7 {K:Frag}{c d:Addr}{rows:List (Addr×Bool)}(h:aaw K c d rows=true):∀C b,Lg rows C=some b→exmAny K (.ref C) [.ref c,.ref d]=some b:=fun C b e=>
 of_decide_eq_true (List.all_eq_true.mp h _ (UJ e))
structure LF where
 qual:Str
 params:Arguments
 body:Expr
 scope:Scope
 cl:List (Str×Addr)
 c:Addr
def Ey (f:Addr) (F:LF):HO:= .ext fun h=>∃(pm ctv:Value),h.get? f=some (kla_obj "<lambda>" F.qual F.params F.body F.scope F.cl pm F.c ctv)
theorem Rr {P:Program}{w:World}{H:Hp}{h:Heap}{f:Addr}{F:LF}{pm ctv:Value}(e:h.get? f=some (kla_obj "<lambda>" F.qual F.params F.body F.scope F.cl pm F.c ctv)):ObjOk P w H h f (Ey f F):=
 ⟨⟨pm,ctv,e⟩,⟨_,e⟩,fun h1 h2 ⟨a,b,z⟩ k=>⟨a,b,k _ z⟩⟩
theorem Fb {P:Program}{w:World}{H:Hp}{h:Heap}{f:Addr}{F:LF}(hok:HOk P w H h) (e:H f=some (Ey f F)):∃pm ctv,h.get? f=some (kla_obj "<lambda>" F.qual F.params F.body F.scope F.cl pm F.c ctv):=by
 have x:ObjOk P w H h f (.ext fun h=>∃(pm ctv:Value),h.get? f=some (kla_obj "<lambda>" F.qual F.params F.body F.scope F.cl pm F.c ctv)):=hok f _ e
 exact x.1
abbrev Ug (P:Addr) (q:Str):NdefX.NTab:=(P,fun _ _=>q)
def tLam (T:List NdefX.NTab) (P:Addr) (mk:Addr→LF):TE:=fun σ H Q=>NdefX.TabsN T H∧∀(f c:Addr) (H1:Hp),(∀b o,b≠P→H b=some o→H1 b=some o)→NdefX.TabsN T H1→H f=none→H1 f=some (Ey f (mk c))→H1 c=some (LamX.CodeO c (mk c).qual)→Q (.ref f) H1
section
variable {X:Cx}
theorem abK {T:List NdefX.NTab}{c P:Addr}{q:Str}{params:Arguments}{body:Expr}{scope:Scope}{pos:Pos}(TB:LamX.TabB X.base X.mg c P) (hcode:X.env.code = .ref c) (hq:X.env.qual ++ "<lambda>" = q) (hm:Ug P q∈T) (hu:∀p∈T,p.1=P→p=Ug P q)
  (hdef:defaultsOf params X.env=([],[])) (hfree:∀y∈scope.names,y.2 = .free→X.env.scope.names.lookup y.1=some .cell∨X.env.scope.names.lookup y.1=some .free) :
  PE X (.Lambda params body scope pos) (tLam T P fun c'=>⟨q,params,body,scope,cloFrom X.env.cells scope.names [],c'⟩):=by
 refine ⟨fun pins s σ H Q I h=> ?_⟩
 obtain ⟨hT,h⟩:=h
 have hcl:∀y∈scope.names,y.2 = .free→∃c,X.env.cells.lookup y.1=some c:=fun y hy e=>(hfree y hy e).elim (fun z=>I.ok.has _ (.inl z)) fun z=>I.ok.has _ (.inr z)
 obtain ⟨ps,hP,tr,al⟩:∃ps:Array Value,H P=some (.tbl ps)∧TriplesOk ps.toList∧∀(pos:Pos) (cv:Value),codeAmong pos ps.toList=some cv→∃c,cv = .ref c∧H c=some (LamX.CodeO c q):=hT _ hm
 have gP:s.heap.get? P=some { cls:= .none,data:= .fields ps}:=I.hok P _ hP
 refine kla_eval hdef ?_
 rw [hq]
 cases hc:codeAmong pos ps.toList with
 | none=>
  refine kla_makeFunction (closure_ok hcl) I.ok.glob (I.mod.glob.keeps I.bk) hcode (TB.code.keeps I.bk) gP tr hc TB.gP (TB.bm.keeps I.bk) fun c' ctv h' tk hx hge hlt hrec htb=> ?_
  obtain ⟨c2,oc,vs,t,e2,hoc,hd,hv⟩:=hrec
  cases e2
  have nC:H c'=none:=I.hok.fresh hge
  have I1:=LamX.inv_table (t':=tk) (more:= #[rawInt pos.line,rawInt pos.col,.ref c']) (h':=h') I hP (fun b o hb e=>hx b o hb e) htb hge ⟨oc,vs,t,hoc,hd,hv⟩
  generalize hH1:upd (upd H P (.tbl (ps ++ #[rawInt pos.line,rawInt pos.col,.ref c']))) c' (LamX.CodeO c' q)=H1 at I1
  have k1:∀b o,b≠P→H b=some o→H1 b=some o:=fun b o n e=>by
   rw [←hH1,upd_ne (ne_of_none e nC),upd_ne n]
   exact e
  have eP:H1 P=some (.tbl (ps ++ #[rawInt pos.line,rawInt pos.col,.ref c'])):=by rw [←hH1,upd_ne (ne_of_none hP nC),upd_same]
  have eC:H1 c'=some (LamX.CodeO c' q):=by rw [←hH1,upd_same]
  have cP:∀{c0:Addr},H c0=some (LamX.CodeO c0 q)→H1 c0=some (LamX.CodeO c0 q):=fun {c0} e=>k1 _ _ (fun z=>by rw [z,hP] at e;unfold LamX.CodeO at e;cases e) e
  have lst:(ps ++ #[rawInt pos.line,rawInt pos.col,.ref c']).toList=ps.toList++[rawInt pos.line,rawInt pos.col,.ref c']:=by simp
  have T1:NdefX.TabsN T H1:=fun p hp=>by
   by_cases hb:p.1=P
   ·rw [hu p hp hb]
    refine ⟨_,eP,by rw [lst];exact PySem.TriplesOk_snoc _ _ _ _ tr,fun p' cv hcv=> ?_⟩
    rw [lst] at hcv
    rcases LamX.among_app _ tr hcv with z | z
    ·obtain ⟨c0,e1,e2⟩:=al p' cv z
     exact ⟨c0,e1,cP e2⟩
    ·exact ⟨c',z,eC⟩
   ·obtain ⟨ps',a1,a2,a3⟩:=hT p hp
    refine ⟨ps',k1 _ _ hb a1,a2,fun p' cv hcv=> ?_⟩
    obtain ⟨c0,e1,e2⟩:=a3 p' cv hcv
    exact ⟨c0,e1,k1 _ _ (fun z=>by rw [z,hP] at e2;unfold LamX.CodeO at e2;cases e2) e2⟩
  have nF:H1 h'.objs.size=none:=I1.hok.fresh (Nat.le_refl _)
  have I2:=I1.laid (a:=h'.objs.size) (o:=Ey h'.objs.size ⟨q,params,body,scope,cloFrom X.env.cells scope.names [],c'⟩) (t':=tk) (h':=h'.push (kla_obj "<lambda>" q params body scope (cloFrom X.env.cells scope.names []) ((X.mg "__name__").getD .none) c' ctv))
   (fun b u e=>Heap.get?_push_of_some _ e) (Nat.le_refl _) (Rr (Heap.get?_push_size _ rfl))
  refine ⟨.ref h'.objs.size,_,I2,rfl,h h'.objs.size c' _ (fun b o n e=> ?_) (T1.ext fun b o e=>bh nF b o e) (I.hok.fresh (Nat.le_trans hge (Nat.le_of_lt hlt))) upd_same (bh nF _ _ eC)⟩
  exact bh nF _ _ (k1 b o n e)
 | some cv=>
  obtain ⟨c',e,hco⟩:=al pos cv hc
  subst e
  refine kla_makeFunctionHit (closure_ok hcl) I.ok.glob (I.mod.glob.keeps I.bk) hcode (TB.code.keeps I.bk) gP tr hc (TB.bm.keeps I.bk) fun ctv h' tk hx hsz=> ?_
  have I1:Inv X pins σ H { s with heap:=h',toks:=tk}:=I.kept hx
  have nF:H h'.objs.size=none:=I1.hok.fresh (Nat.le_refl _)
  have I2:=I1.laid (a:=h'.objs.size) (o:=Ey h'.objs.size ⟨q,params,body,scope,cloFrom X.env.cells scope.names [],c'⟩) (t':=tk) (h':=h'.push (kla_obj "<lambda>" q params body scope (cloFrom X.env.cells scope.names []) ((X.mg "__name__").getD .none) c' ctv))
   (fun b u e=>Heap.get?_push_of_some _ e) (Nat.le_refl _) (Rr (Heap.get?_push_size _ rfl))
  exact ⟨.ref h'.objs.size,_,I2,rfl,h h'.objs.size c' _ (fun b o _ e=>bh nF b o e) (hT.ext fun b o e=>bh nF b o e) nF upd_same (bh nF _ _ hco)⟩
end
structure LamP (ps:List Str) (sc scope:Scope):Prop where
 kind:scope.kind = .function
 co:scope.isCoroutine=false
 gen:scope.isGenerator=false
 own:∀y∈scope.names,y.2 ≠ .cell∧(y.2 = .local→y.1∈ps)
 par:∀a∈ps,scope.names.lookup a=some .local
 free:∀y∈scope.names,y.2 = .free→sc.names.lookup y.1=some .cell∨sc.names.lookup y.1=some .free
 nd:ps.Nodup
def aaf (ps:List Str) (sc scope:Scope):Bool:=
 decide (scope.kind = .function)&&(!scope.isCoroutine&&(!scope.isGenerator&&((scope.names.all fun y=> !decide (y.2 = .cell)&&(!decide (y.2 = .local)||decide (y.1∈ps)))&&((ps.all fun a=>decide (scope.names.lookup a=some .local)) &&
  ((scope.names.all fun y=> !decide (y.2 = .free)||(decide (sc.names.lookup y.1=some .cell)||decide (sc.names.lookup y.1=some .free)))&&decide ps.Nodup)))))
theorem fX {ps:List Str}{sc scope:Scope}(h:aaf ps sc scope=true):LamP ps sc scope:=by
 unfold aaf at h
 simp only [Bool.and_eq_true,Bool.or_eq_true,Bool.not_eq_true',decide_eq_true_eq,decide_eq_false_iff_not,List.all_eq_true] at h
 obtain ⟨h1,h2,h3,h4,h5,h6,h7⟩:=h
 exact ⟨h1,h2,h3,fun y hy=>⟨(h4 y hy).1,fun z=>(h4 y hy).2.elim (fun n=>absurd z n) id⟩,h5,fun y hy z=>(h6 y hy).elim (fun n=>absurd z n) id,h7⟩
abbrev zN (X:Cx) (q:Str) (scope:Scope) (L f c:Addr):Env:=envX q scope L f (.ref c) (cloFrom X.env.cells scope.names [])
def FT (X:Cx) (N:List Str) (q:Str) (scope:Scope) (f c:Addr) (A:Around) (outer:List Env) (s:Shared) (H:Hp) (E:XK):Cx where
 prog:=X.prog
 w:=X.w
 K:=X.K
 mg:=X.mg
 base:=X.base
 A:=A.deeper (zN X q scope s.heap.objs.size f c)
 N:=N
 s_0:=s
 H_0:=H
 env:=zN X q scope s.heap.objs.size f c
 outer:=outer
 stack:=zN X q scope s.heap.objs.size f c::outer
 ex:=[]
 fn:=fun _=>false
 calm:=true
 pn:=[]
 xe:=fun e s'=>wpAny (model X.prog X.w) (A.deeper (zN X q scope s.heap.objs.size f c)) (leaving (zN X q scope s.heap.objs.size f c) e) (fun _ s2=>L2.CX X.prog X.w outer H s E e s2) (fun e2 s2=>L2.CX X.prog X.w outer H s E e2 s2) s'
theorem Ck {α β:Type}{F:α→β→Prop}:∀{l:List α}{r:List β}{i:Nat}{a:α},Paired F l r→l[i]?=some a→∃b,r[i]?=some b∧F a b
 | _,_,_,_,.nil,e=>by simp at e
 | _,_,0,_,.cons h _,e=>by simp at e;subst e;exact ⟨_,rfl,h⟩
 | _,_,i+1,a,.cons _ t,e=>by
  obtain ⟨b,h1,h2⟩:=Ck (i:=i) (a:=a) t (by simpa using e)
  exact ⟨b,by simpa using h1,h2⟩
theorem Lq {ps:List Str}(nd:ps.Nodup):∀{us:List Value}{i:Nat}{y:Str}{u:Value},ps[i]?=some y→us[i]?=some u→(ps.zip us).reverse.lookup y=some u:=by
 intro us i y u h1 h2
 have hm:(y,u)∈(ps.zip us).reverse:=by
  rw [List.mem_reverse]
  refine List.mem_of_getElem? (i:=i) ?_
  rw [List.getElem?_zip_eq_some]
  exact ⟨h1,h2⟩
 have uq:∀v,(y,v)∈(ps.zip us).reverse→v=u:=fun v hv=>by
  rw [List.mem_reverse] at hv
  obtain ⟨j,hj⟩:=List.mem_iff_getElem?.mp hv
  rw [List.getElem?_zip_eq_some] at hj
  have hij:j=i:=by
   exact nodup_ix nd hj.1 h1
  subst hij
  have:=hj.2
  rw [h2] at this
  exact (Option.some.inj this).symm
 generalize (ps.zip us).reverse=l at hm uq
 induction l with
 | nil=>cases hm
 | cons p l ih=>
  obtain ⟨a,b⟩:=p
  by_cases e:y=a
  ·subst e
   rw [List.lookup_cons_self,uq b List.mem_cons_self]
  ·have hb:(y==a)=false:=by simpa using e
   rw [List.lookup_cons,hb]
   rcases List.mem_cons.mp hm with z | z
   ·cases z
    exact absurd rfl e
   ·exact ih z fun v hv=>uq v (List.mem_cons_of_mem _ hv)
section
variable {X:Cx}{pins:List (Addr×Obj)}{σ:L2.St}{H HZ:Hp}{s s1:Shared}
theorem U5 {A:Around}{outer:List Env}{E:XK}{ps:List Str}{cap:List (Nat×Str)}{q:Str}{scope:Scope}{f c:Addr}{h1:Heap}{tk:Nat}{vs:List V}{us:List Value}(I:Inv X pins σ H s) (L:LamP ps X.env.scope scope) (e0:Env0 X.prog X.w X.K X.mg X.base A outer s1 HZ) (hd:A.handled=none)
  (un:Un (frs X.stack) [] H HZ s.heap s1.heap) (hns:h1.Ns s1.heap.objs.size fun y=>(ps.zip us).reverse.lookup y) (kp:∀b o,s1.heap.get? b=some o→h1.get? b=some o) (r:Vals vs us) (hl:vs.length=ps.length) (hc:∀p∈cap,X.N[p.1]?=some p.2∧p.2∉ps) :
  Inv (FT X (ps++cap.map (·.2)) q scope f c A outer s1 HZ E) [] (vs.map some++cap.map fun p=>(σ[p.1]?).getD none) HZ { s1 with heap:=h1,toks:=tk}:=by
 have hf:∀y∈scope.names,y.2 = .free→∃c,X.env.cells.lookup y.1=some c:=fun y hy e=>(L.free y hy e).elim (fun z=>I.ok.has _ (.inl z)) fun z=>I.ok.has _ (.inr z)
 have cm:∀{y c},(cloFrom X.env.cells scope.names []).lookup y=some c→X.env.cells.lookup y=some c:=fun {y c} e=>by
  rcases cloFrom_mem (PySem.mem_of_lookup e) with z | ⟨z1,z2⟩
  ·cases z
  ·obtain ⟨c1,hc1⟩:=hf _ z1 rfl
   dsimp only at hc1 z2
   rw [hc1] at z2 ⊢
   rw [z2]
   rfl
 have look:∀{y},scope.names.lookup y=some .free→∃c,(cloFrom X.env.cells scope.names []).lookup y=some c:=fun {y} hy=>mem_lookup (cloFrom_has (cells:=X.env.cells) (acc:=[]) (show (y,NameKind.free)∈scope.names from PySem.mem_of_lookup hy))
 have ck:∀{c:Addr}{v:Option Value},H c=none→s.heap.IsCell c v→h1.IsCell c v:=fun {c v} n z=>by
  obtain ⟨o,ho,d⟩:=z
  obtain ⟨sl,z⟩:=un.any ho n (by simp)
  exact ⟨_,kp _ _ z,d⟩
 have lu:us.length=ps.length:=(Paired.length r).symm.trans hl
 have nx:∀b:Addr,b∉(FT X (ps++cap.map (·.2)) q scope f c A outer s1 HZ E).ex:=fun b z=>absurd (show b∈([]:List Addr) from z) (by simp)
 refine ⟨⟨e0.mod,L.kind,rfl,rfl,Nat.le_refl _,fun y z c a b=>I.ok.inj y z c (cm a) (cm b),fun y hy=> ?_,fun y c z _=> ?_,fun _=>hd,Around.frames_deeper e0.frames,.inr ⟨rfl,rfl⟩,fun b z=>absurd z (nx b),e0.bs,e0.bsz,fun b _ _=>nx b,fun b z=>absurd z (nx b),e0.funs,e0.frf⟩,
  rfl,e0.bare,Un.kept kp,⟨_,hns,fun i y v a b d=> ?_⟩,fun y c e=> ?_,e0.hok.fresh (Nat.le_refl _),fun y c e=> ?_,fun p hp=>absurd (show p∈([]:List (Addr×Obj))++[] from hp) (by simp),e0.hok.kept kp,?_⟩
 ·rcases (show scope.names.lookup y=some .cell∨scope.names.lookup y=some .free from hy) with hy | hy
  ·exact absurd rfl (L.own _ (PySem.mem_of_lookup hy)).1
  ·exact look hy
 ·cases (show false=true from z)
 ·have a:(ps++cap.map (·.2))[i]?=some y:=a
  by_cases hi:i<ps.length
  ·rw [List.getElem?_append_left hi] at a
   rw [List.getElem?_append_left (by simpa [hl] using hi),List.getElem?_map] at b
   obtain ⟨v0,hv0,ev⟩:=Option.map_eq_some_iff.mp b
   cases ev
   obtain ⟨u,hu,ru⟩:=Ck r hv0
   exact ⟨u,ru,.inl ⟨L.par y (List.mem_of_getElem? a),Lq L.nd a hu⟩⟩
  ·rw [List.getElem?_append_right (by omega),List.getElem?_map] at a
   rw [List.getElem?_append_right (by simpa [hl] using hi),List.getElem?_map] at b
   simp only [List.length_map,hl] at b
   obtain ⟨p,hp,ep⟩:=Option.map_eq_some_iff.mp a
   rw [hp] at b
   have b:(σ[p.1]?).getD none=some v:=by simpa using b
   subst ep
   obtain ⟨hN,hni⟩:=hc p (List.mem_of_getElem? hp)
   have hσ:σ[p.1]?=some (some v):=by
    cases e:σ[p.1]? with
    | none=>rw [e] at b;cases b
    | some o=>rw [e] at b;exact congrArg some b
   rcases (show Vis scope p.2 from d) with k | k | k
   ·exact absurd ((L.own _ (PySem.mem_of_lookup k)).2 rfl) hni
   ·exact absurd rfl (L.own _ (PySem.mem_of_lookup k)).1
   ·obtain ⟨m,_,hlk⟩:=I.loc
    have fr:=L.free _ (PySem.mem_of_lookup k) rfl
    obtain ⟨u,ru,z⟩:=hlk p.1 p.2 v hN hσ (fr.elim (fun k=> .inr (.inl k)) fun k=> .inr (.inr k))
    obtain ⟨c2,h2⟩:=look k
    refine ⟨u,ru,.inr ⟨.inr k,c2,h2,?_⟩⟩
    have c1:=cm h2
    rcases z with ⟨k',_⟩ | ⟨_,c3,e',z⟩
    ·have k':X.env.scope.names.lookup p.2=some .local:=k'
     rcases fr with k2 | k2<;>rw [show X.env.scope.names.lookup p.2=_ from k2] at k'<;>cases k'
    ·rw [c1] at e'
     cases e'
     exact ck (I.freeC p.2 _ c1) z
 ·obtain ⟨v,z⟩:=I.cell y c (cm e)
  exact ⟨v,ck (I.freeC y c (cm e)) z⟩
 ·obtain ⟨v,o,ho,d⟩:=I.cell y c (cm e)
  exact un.free c o ho (I.freeC y c (cm e)) (by simp)
 ·simp [FT,hl]
end
def Zd (K:Frag) (a:Addr) (ys:List Str):Prop:=∃(o:Obj) (its:Array Value) (n:Nat),K.lookup a=some o∧o.cls = .type "tuple" ∧ o.data = .seq its n∧its.size≤sizeLine∧Vals (ys.map V.str) its.toList
def Ui:List Value→Option (List Str)
 | []=>some []
 | .str x _::r=>(Ui r).map (x :: ·)
 | _::_=>none
theorem R7:∀{vs:List Value}{ys:List Str},Ui vs=some ys→Vals (ys.map V.str) vs
 | [],ys,e=>by
  cases e
  exact .nil
 | v::vs,ys,e=>by
  cases v with
  | str x t=>
   obtain ⟨ys',e1,rfl⟩:=Option.map_eq_some_iff.mp (show (Ui vs).map (x :: ·)=some ys from e)
   exact .cons ⟨t,rfl⟩ (R7 e1)
  | _=>cases e
def ab5 (K:Frag) (a:Addr) (ys:List Str):Bool:=match K.lookup a with
 | some o=>decide (o.cls = .type "tuple")&&(match o.data with
  | .seq its _=>decide (its.size≤sizeLine)&&decide (Ui its.toList=some ys)
  | _=>false)
 | none=>false
theorem Zy {K:Frag}{a:Addr}{ys:List Str}(h:ab5 K a ys=true):Zd K a ys:=by
 unfold ab5 at h
 cases e:K.lookup a with
 | none=>rw [e] at h;cases h
 | some o=>
  rw [e] at h
  have h:(decide (o.cls = .type "tuple")&&(match o.data with
   | .seq its _=>decide (its.size≤sizeLine)&&decide (Ui its.toList=some ys)
   | _=>false))=true:=h
  rw [Bool.and_eq_true,decide_eq_true_eq] at h
  obtain ⟨h1,h2⟩:=h
  cases ed:o.data with
  | seq its n=>
   rw [ed] at h2
   have h2:(decide (its.size≤sizeLine)&&decide (Ui its.toList=some ys))=true:=h2
   rw [Bool.and_eq_true,decide_eq_true_eq,decide_eq_true_eq] at h2
   exact ⟨o,its,n,e,h1,ed,h2.1,R7 h2.2⟩
  | _=>rw [ed] at h2;cases h2
abbrev TpT:=Addr→Option (List Str)
def ach (K:Frag) (tb:TpT):Prop:=∀a ys,tb a=some ys→Zd K a ys
theorem SN {K:Frag}{H:Hp}:∀ys:List Str,DpAll K H (ys.map V.str) (ys.map PyData.str)
 | []=> .nil
 | y::ys=> .cons (.str y) (SN ys)
theorem Zd.dp {K:Frag}{H:Hp}{a:Addr}{ys:List Str}(h:Zd K a ys):Dp K H (.ref a) (.tuple (ys.map .str)):=by
 obtain ⟨o,its,n,h1,h2,h3,h4,h5⟩:=h
 exact .tup (.inr ⟨o,its,n,h1,h2,h3,h4,h5⟩) (SN ys)
def inG (tb:TpT) (x y:D):M D:=match y with
 | .raw (.ref a)=>(match tb a with
  | some ys=>(match x.pd with
   | some p=>if SeqAt.shaped p=true∧SeqAt.shaped (.tuple (ys.map .str))=true then ret (.bl (mH p (ys.map .str))) else stk
   | none=>stk)
  | none=>stk)
 | y=>inD x y
section
variable {X:Cx}{k:Nat}
theorem acD {tb:TpT}(T:ach X.K tb) (hr:Room k X.A):Op2 X (compareOp .In) (inG tb):=by
 obtain ⟨r0,p0,h0⟩:=(Yv (X:=X) hr).ex
 refine .mk' ((W3 (FP hr)).or p0) fun W B H s x y dx dy Q E k w rx ry h=> ?_
 by_cases hy:∃a,dy = .raw (.ref a)
 ·obtain ⟨a,rfl⟩:=hy
  have ey:y = .ref a:=by
   rcases ry with ry | ⟨p,u,rfl,hp,ry⟩
   ·cases ry;rfl
   ·cases ry
  replace h:Ans W X.K B H ((match tb a with
   | some ys=>(match dx.pd with
    | some p=>if SeqAt.shaped p=true∧SeqAt.shaped (.tuple (ys.map .str))=true then ret (.bl (mH p (ys.map .str))) else stk
    | none=>stk)
   | none=>stk:M D) s) Q E:=h
  cases et:tb a with
  | none=>rw [et] at h;exact (show False from h).elim
  | some ys=>
   rw [et] at h
   cases ep:dx.pd with
   | none=>rw [ep] at h;exact (show False from h).elim
   | some p=>
    rw [ep] at h
    replace h:Ans W X.K B H ((if SeqAt.shaped p=true∧SeqAt.shaped (.tuple (ys.map .str))=true then ret (.bl (mH p (ys.map .str))) else stk:M D) s) Q E:=h
    split at h
    ·rename_i hc
     exact Or.inl ⟨p,ys.map .str,rx.dp k ep,by rw [ey];exact (T a ys et).dp,hc.1,hc.2,h.bU k w (.bl _)⟩
    ·exact (show False from h).elim
 ·refine Or.inr (h0 W B H s x y dx dy Q E k w rx ry ?_)
  have e:inG tb dx dy=inD dx dy:=by
   cases dy with
   | raw v=>
    cases v with
    | ref a=>exact absurd ⟨a,rfl⟩ hy
    | _=>rfl
   | _=>rfl
  rw [e] at h
  exact h
end
end PV
namespace PV.Law
open PySem PySem.W PySem.Calls PyProof.Rows L2 PV
abbrev PP:Program:=PySem.Challenge.pw_labelroads_k83_texts_of_parcels_refused
def top (i:Nat):Stmt:=PP.main.body.getD i (.Pass ⟨0,0,0,0⟩)
abbrev TB (K:Frag):List NdefX.NTab:=[Ug (He.cT K ("need_net",none)).2 "need_net.<locals>.<lambda>",Ug (He.cT K ("law",none)).2 "law.<locals>.<lambda>"]
def clsBody (s:Stmt):List Stmt:=match s with
 | .ClassDef (body:=b) .. =>b
 | _=>[]
def met (c i:Nat):Stmt:=(clsBody (top c)).getD i (.Pass ⟨0,0,0,0⟩)
def ini (i:Nat):Stmt:=(clsBody (top i)).getD 0 (.Pass ⟨0,0,0,0⟩)
abbrev FQ:Addr:=24
abbrev cX:Addr:=46
abbrev yr:Addr:=67
abbrev BZ:Addr:=88
abbrev Cg:Addr:=109
abbrev eV:Addr:=130
abbrev bW:Addr:=151
abbrev vo:Addr:=172
abbrev uZ:Addr:=214
abbrev bF:Addr:=193
abbrev aD:Addr:=427
abbrev dH:Addr:=318
def tpT:TpT:=fun a=>if a=dH then some ["0","1","2","3","4","5","6","7","8","9"] else  none
def V2:List (Addr×V×Bool):=[(46,V.ref 172,false),(46,V.ref 130,false),(46,V.ref 109,false),(46,V.ref 193,false),(46,V.ref 46,true),(46,V.ref 67,false),(46,V.ref 151,false),(46,V.ref 88,false),(46,V.ref 24,true),(46,V.ref 214,false),(67,V.ref 172,false),(67,V.ref 130,false),(67,V.ref 109,false),(67,V.ref 193,false),(67,V.ref 46,false),(67,V.ref 67,true),(67,V.ref 151,false),(67,V.ref 88,false),(67,V.ref 24,true),(67,V.ref 214,false),(88,V.ref 172,false),(88,V.ref 130,false),(88,V.ref 109,false),(88,V.ref 193,false),(88,V.ref 46,false),(88,V.ref 67,false),(88,V.ref 151,false),(88,V.ref 88,true),(88,V.ref 24,true),(88,V.ref 214,false),(109,V.ref 172,false),(109,V.ref 130,false),(109,V.ref 109,true),(109,V.ref 193,false),(109,V.ref 46,false),(109,V.ref 67,false),(109,V.ref 151,false),(109,V.ref 88,false),(109,V.ref 24,true),(109,V.ref 214,false),(130,V.ref 172,false),(130,V.ref 130,true),(130,V.ref 109,false),(130,V.ref 193,false),(130,V.ref 46,false),(130,V.ref 67,false),(130,V.ref 151,false),(130,V.ref 88,false),(130,V.ref 24,true),(130,V.ref 214,false),(151,V.ref 172,false),(151,V.ref 130,false),(151,V.ref 109,false),(151,V.ref 193,false),(151,V.ref 46,false),(151,V.ref 67,false),(151,V.ref 151,true),(151,V.ref 88,false),(151,V.ref 24,true),(151,V.ref 214,false),(172,V.ref 172,true),(172,V.ref 130,false),(172,V.ref 109,false),(172,V.ref 193,false),(172,V.ref 46,false),(172,V.ref 67,false),(172,V.ref 151,false),(172,V.ref 88,false),(172,V.ref 24,true),(172,V.ref 214,false),(193,V.ref 172,false),(193,V.ref 130,false),(193,V.ref 109,false),(193,V.ref 193,true),(193,V.ref 46,false),(193,V.ref 67,false),(193,V.ref 151,false),(193,V.ref 88,false),(193,V.ref 24,true),(193,V.ref 214,false),(214,V.ref 172,false),(214,V.ref 130,false),(214,V.ref 109,false),(214,V.ref 193,false),(214,V.ref 46,false),(214,V.ref 67,false),(214,V.ref 151,false),(214,V.ref 88,false),(214,V.ref 24,false),(214,V.ref 214,true)]
def Ye:List (Addr×Str):=[(46,"place"),(67,"value"),(88,"value"),(109,"value"),(130,"value"),(151,"value"),(172,"place"),(193,"line"),(193,"word"),(214,"most")]
def aak:List (Addr×Bool):=[(46,true),(67,true),(88,true),(109,true),(130,true),(151,true),(172,true),(193,true),(214,true)]
abbrev Vx:Addr→Option Bool:=Lg aak
abbrev isT:IsT:=VD V2
abbrev atT:Addr→Str→Bool:=aae Ye
def wU:He.DefD:=⟨("Line",some "is_over"),"is_over","Line.is_over",defArgs (met 56 1),defBody (met 56 1),defScope (met 56 1),[],[]⟩
def zf:He.DefD:=⟨("Line",some "refuse"),"refuse","Line.refuse",defArgs (met 56 2),defBody (met 56 2),defScope (met 56 2),[],[]⟩
def wM:He.DefD:=⟨("Line",some "is_next"),"is_next","Line.is_next",defArgs (met 56 3),defBody (met 56 3),defScope (met 56 3),[],[]⟩
def zE:He.DefD:=⟨("Line",some "one_of"),"one_of","Line.one_of",defArgs (met 56 4),defBody (met 56 4),defScope (met 56 4),[],[]⟩
def tR:He.DefD:=⟨("Line",some "next_word"),"next_word","Line.next_word",defArgs (met 56 5),defBody (met 56 5),defScope (met 56 5),[],[]⟩
def rA:He.DefD:=⟨("Line",some "next_labels"),"next_labels","Line.next_labels",defArgs (met 56 6),defBody (met 56 6),defScope (met 56 6),[],[]⟩
def ql:He.DefD:=⟨("Line",some "next_choice"),"next_choice","Line.next_choice",defArgs (met 56 7),defBody (met 56 7),defScope (met 56 7),[],[]⟩
def ux:He.DefD:=⟨("Line",some "need_over"),"need_over","Line.need_over",defArgs (met 56 8),defBody (met 56 8),defScope (met 56 8),[],[]⟩
def vR:He.DefD:=⟨("Line",some "__init__"),"__init__","Line.__init__",defArgs (met 56 0),defBody (met 56 0),defScope (met 56 0),[],[]⟩
def Ht:He.DefD:=⟨("is_whole",none),"is_whole","is_whole",defArgs (top 23),defBody (top 23),defScope (top 23),[],[]⟩
def Gu:He.DefD:=⟨("is_among",none),"is_among","is_among",defArgs (top 24),defBody (top 24),defScope (top 24),[],[]⟩
def HJ:He.DefD:=⟨("is_tuple",none),"is_tuple","is_tuple",defArgs (top 25),defBody (top 25),defScope (top 25),[],[]⟩
def Jw:He.DefD:=⟨("is_word",none),"is_word","is_word",defArgs (top 26),defBody (top 26),defScope (top 26),[],[]⟩
def wR:He.DefD:=⟨("is_road_pair",none),"is_road_pair","is_road_pair",defArgs (top 27),defBody (top 27),defScope (top 27),[],[]⟩
def Gf:He.DefD:=⟨("is_label",none),"is_label","is_label",defArgs (top 28),defBody (top 28),defScope (top 28),[],[]⟩
def Aq:He.DefD:=⟨("are_labels",none),"are_labels","are_labels",defArgs (top 29),defBody (top 29),defScope (top 29),[],[]⟩
def Ow:He.DefD:=⟨("is_key",none),"is_key","is_key",defArgs (top 30),defBody (top 30),defScope (top 30),[],[]⟩
def Ef:He.DefD:=⟨("is_choice",none),"is_choice","is_choice",defArgs (top 31),defBody (top 31),defScope (top 31),[],[]⟩
def GF:He.DefD:=⟨("is_group",none),"is_group","is_group",defArgs (top 32),defBody (top 32),defScope (top 32),[],[]⟩
def Nf:He.DefD:=⟨("is_row",none),"is_row","is_row",defArgs (top 33),defBody (top 33),defScope (top 33),[],[]⟩
def Az:He.DefD:=⟨("need_items",none),"need_items","need_items",defArgs (top 34),defBody (top 34),defScope (top 34),[],[]⟩
def Gz:He.DefD:=⟨("need_net",none),"need_net","need_net",defArgs (top 35),defBody (top 35),defScope (top 35),[],[]⟩
def yS:He.DefD:=⟨("need_failed",none),"need_failed","need_failed",defArgs (top 36),defBody (top 36),defScope (top 36),[],[]⟩
def yc:He.DefD:=⟨("is_parcel_of",none),"is_parcel_of","is_parcel_of",defArgs (top 39),defBody (top 39),defScope (top 39),[],[]⟩
def Ij:He.DefD:=⟨("need_all",none),"need_all","need_all",defArgs (top 40),defBody (top 40),defScope (top 40),[],[]⟩
def xG:He.DefD:=⟨("choice_words",none),"choice_words","choice_words",defArgs (top 50),defBody (top 50),defScope (top 50),[],[]⟩
def Am:He.DefD:=⟨("group_text",none),"group_text","group_text",defArgs (top 51),defBody (top 51),defScope (top 51),[],[]⟩
def Hz:He.DefD:=⟨("row_text",none),"row_text","row_text",defArgs (top 52),defBody (top 52),defScope (top 52),[],[]⟩
def G3:He.DefD:=⟨("net_text",none),"net_text","net_text",defArgs (top 53),defBody (top 53),defScope (top 53),[],[]⟩
def wA:He.DefD:=⟨("parcel_words",none),"parcel_words","parcel_words",defArgs (top 54),defBody (top 54),defScope (top 54),[],[]⟩
def yX:He.DefD:=⟨("parcel_text",none),"parcel_text","parcel_text",defArgs (top 55),defBody (top 55),defScope (top 55),[],[]⟩
def Dm:He.DefD:=⟨("groups_in",none),"groups_in","groups_in",defArgs (top 57),defBody (top 57),defScope (top 57),[],[]⟩
def MJ:He.DefD:=⟨("key_in",none),"key_in","key_in",defArgs (top 58),defBody (top 58),defScope (top 58),[],[]⟩
def O4:He.DefD:=⟨("row_in",none),"row_in","row_in",defArgs (top 59),defBody (top 59),defScope (top 59),[],[]⟩
def Dt:He.DefD:=⟨("labels_in",none),"labels_in","labels_in",defArgs (top 60),defBody (top 60),defScope (top 60),[],[]⟩
def Gy:He.DefD:=⟨("read_net",none),"read_net","read_net",defArgs (top 61),defBody (top 61),defScope (top 61),[],[]⟩
def Dk:He.DefD:=⟨("parcel_in",none),"parcel_in","parcel_in",defArgs (top 62),defBody (top 62),defScope (top 62),[],[]⟩
def yR:He.DefD:=⟨("read_parcel",none),"read_parcel","read_parcel",defArgs (top 63),defBody (top 63),defScope (top 63),[],[]⟩
def Ec:He.DefD:=⟨("_law_mixed",none),"_law_mixed","_law_mixed",defArgs (top 65),defBody (top 65),defScope (top 65),[],[]⟩
def Aa:He.DefD:=⟨("_law_folded",none),"_law_folded","_law_folded",defArgs (top 66),defBody (top 66),defScope (top 66),[],[]⟩
def Gn:He.DefD:=⟨("_law_draw",none),"_law_draw","_law_draw",defArgs (top 67),defBody (top 67),defScope (top 67),[],[]⟩
def Di:He.DefD:=⟨("_law_begun",none),"_law_begun","_law_begun",defArgs (top 68),defBody (top 68),defScope (top 68),[],[]⟩
def FZ:He.DefD:=⟨("_law_like",none),"_law_like","_law_like",defArgs (top 69),defBody (top 69),defScope (top 69),[],[]⟩
def tY:He.DefD:=⟨("_law_label_menu",none),"_law_label_menu","_law_label_menu",defArgs (top 70),defBody (top 70),defScope (top 70),[],[]⟩
def BL:He.DefD:=⟨("_law_choice",none),"_law_choice","_law_choice",defArgs (top 71),defBody (top 71),defScope (top 71),[],[]⟩
def Ag:He.DefD:=⟨("_law_groups",none),"_law_groups","_law_groups",defArgs (top 72),defBody (top 72),defScope (top 72),[],[]⟩
def Jz:He.DefD:=⟨("_law_net",none),"_law_net","_law_net",defArgs (top 73),defBody (top 73),defScope (top 73),[],[]⟩
def zY:He.DefD:=⟨("_law_parcel",none),"_law_parcel","_law_parcel",defArgs (top 74),defBody (top 74),defScope (top 74),[],[]⟩
def Ip:He.DefD:=⟨("_law_said",none),"_law_said","_law_said",defArgs (top 75),defBody (top 75),defScope (top 75),[],[]⟩
def Ka:He.DefD:=⟨("_law_due",none),"_law_due","_law_due",defArgs (top 76),defBody (top 76),defScope (top 76),[],[]⟩
def WK:He.DefD:=⟨("law",none),"law","law",defArgs (top 77),defBody (top 77),defScope (top 77),[],[]⟩
def fn:List He.DefD:=[Ht,Gu,HJ,Jw,wR,Gf,Aq,Ow,Ef,GF,Nf,Az,Gz,yS,yc,Ij,xG,Am,Hz,G3,wA,yX,wU,zf,wM,zE,tR,rA,ql,ux,vR,Dm,MJ,O4,Dt,Gy,Dk,yR,Ec,Aa,Gn,Di,FZ,tY,BL,Ag,Jz,zY,Ip,Ka,WK]
def fa:List He.Fa:=[.glo "is_whole",.glo "is_among",.glo "is_tuple",.glo "is_word",.glo "is_road_pair",.glo "is_label",.glo "are_labels",.glo "is_key",.glo "is_choice",.glo "is_group",.glo "is_row",.glo "need_items",.glo "need_net",.glo "need_failed",.glo "is_parcel_of",.glo "need_all",.glo "choice_words",.glo "group_text",.glo "row_text",.glo "net_text",.glo "parcel_words",.glo "parcel_text",.glo "groups_in",.glo "key_in",.glo "row_in",.glo "labels_in",.glo "read_net",.glo "parcel_in",.glo "read_parcel",.glo "_law_mixed",.glo "_law_folded",.glo "_law_draw",.glo "_law_begun",.glo "_law_like",.glo "_law_label_menu",.glo "_law_choice",.glo "_law_groups",.glo "_law_net",.glo "_law_parcel",.glo "_law_said",.glo "_law_due",.glo "law",.glo "NetError",.glo "BadNet",.glo "BadNumber",.glo "BadRoad",.glo "BadHead",.glo "BadFailed",.glo "BadParcel",.glo "BadChoices",.glo "BadLine",.glo "TooGreat",.glo "Line",.glo "DIGITS",.free "all",.free "any",.free "bool",.free "enumerate",.free "int",.free "isinstance",.free "len",.free "list",.free "min",.free "range",.free "repr",.free "sorted",.free "str",.free "super",.free "tuple",.free "zip",.str "ALL" "all",.str "ANY" "any",.str "ELSE" "/",.str "HOME" "home",.str "LABELS" "labels",.str "LETTERS" "abcdefghijklmnopqrstuvwxyz",.int "MOST_CHOICES" 3,.int "MOST_GROUPS" 3,.int "MOST_HOUSES" 8,.int "MOST_LABELS" 4,.int "MOST_LETTERS" 8,.int "MOST_ROADS" 10,.int "MOST_STACK" 3000,.int "MOST_WORD" 3,.str "NO_LABEL" "-",.str "OR" ",",.str "ROAD" "road",.str "ROW" "row",.str "TO" ">",.cls "Line",.mkr "Line",.noat "Line" "words",.noat "Line" "number",.noat "Line" "at",.meth "Line" "is_over",.meth "Line" "refuse",.meth "Line" "is_next",.meth "Line" "one_of",.meth "Line" "next_word",.meth "Line" "next_labels",.meth "Line" "next_choice",.meth "Line" "need_over",.meth "Line" "__init__"]
def aa1:List IniD:=[⟨"BadNet","BadNet.__init__",defArgs (ini 2),defBody (ini 2),defScope (ini 2)⟩,⟨"BadFailed","BadFailed.__init__",defArgs (ini 6),defBody (ini 6),defScope (ini 6)⟩,⟨"BadParcel","BadParcel.__init__",defArgs (ini 7),defBody (ini 7),defScope (ini 7)⟩,⟨"BadLine","BadLine.__init__",defArgs (ini 9),defBody (ini 9),defScope (ini 9)⟩]
def tf:List He.Defn:=[("need_net",none),("law",none)]
def ex (K:Frag):Bool:=decide (He.ga K "NetError" = 24)&&decide (He.ga K "BadNet" = 46)&&decide (He.ga K "BadNumber" = 67)&&decide (He.ga K "BadRoad" = 88)&&decide (He.ga K "BadHead" = 109)&&decide (He.ga K "BadFailed" = 130)&&decide (He.ga K "BadParcel" = 151)&&decide (He.ga K "BadChoices" = 172)&&decide (He.ga K "BadLine" = 193)&&decide (He.ga K "TooGreat" = 214)&&decide (He.ga K "Line" = 427)&&decide (He.ga K "DIGITS" = 318)&&decide (((TB K).map (·.1)).Nodup)&&(K.lookup sysModules).isSome&&Wy K V2&&Vj K Ye&&Yn K 46 true&&Yn K 130 true&&Yn K 151 true&&Yn K 193 true&&Ji K 46 (He.fAd K ("BadNet",some "__init__")) "BadNet.__init__" PP.main.file&&Ji K 130 (He.fAd K ("BadFailed",some "__init__")) "BadFailed.__init__" PP.main.file&&Ji K 151 (He.fAd K ("BadParcel",some "__init__")) "BadParcel.__init__" PP.main.file&&Ji K 193 (He.fAd K ("BadLine",some "__init__")) "BadLine.__init__" PP.main.file&&aaw K 24 214 aak&&ab5 K 318 ["0","1","2","3","4","5","6","7","8","9"]
theorem ac0 {K:Frag}{H:Hp}(h:∀p∈tf.map (He.cT K),H p.2=some (.tbl #[])):NdefX.TabsN (TB K) H:=fun p hp=>by
 simp only [List.mem_cons,List.not_mem_nil,or_false] at hp
 rcases hp with rfl | rfl
 ·exact NdefX.TabN.nil (h _ (List.mem_map.mpr ⟨_,List.mem_of_getElem? (i:=0) rfl,rfl⟩))
 ·exact NdefX.TabN.nil (h _ (List.mem_map.mpr ⟨_,List.mem_of_getElem? (i:=1) rfl,rfl⟩))
abbrev R:PySem.W.OpenRow:=PySem.W.OpenLaw.row PySem.Challenge.rw_labelroads_k83_texts_of_parcels_refused
def asN:List Addr:=decA 443 10002000300060004002400460067008801090130015101720193021402240231023802430248025502600267027402790284029102980303031003170318032503300335034003470354042704380445045204590466047304800487049204990504051105180523053005350540054705520559000000230045006600870108012901500171019202130223023002370242024702540259026602730278028302900297030203090316032403290334033903460353042604370444045104580465047204790486049104980503051005170522052905340539054605510558002200250043004400640065008500860106010701270128014801490169017001900191021102120215021802190220022102220225022602270228022902320233023402350236023902400241024402450246024902500251025202530256025702580261026202630264026502680269027002710272027502760277028002810282028502860287028802890292029302940295029602990300030103040305030603070308031103120313031403150319032003210322032303260327032803310332033303360337033803410342034303440345034803490350035103520368037503820389039604030410041704240425042804290432043304340435043604390440044104420443044604470448044904500453045404550456045704600461046204630464046704680469047004710474047504760477047804810482048304840485048804890490049304940495049604970500050105020505050605070508050905120513051405150516051905200521052405250526052705280531053205330536053705380541054205430544054505480549055005530554055505560557004200310063005200840073010500940126011501470136016801570189017802100199036703740381038803950402040904160423003700380039004000410058005900600061006200790080008100820083010001010102010301040121012201230124012501420143014401450146016301640165016601670184018501860187018802050206020702080209036203630364036503660369037003710372037303760377037803790380038303840385038603870390039103920393039403970398039904000401040404050406040704080411041204130414041504180419042004210422 []
abbrev hk:PySem.W.Hook:=hookA asN fa fn aa1 tf ex
def ob (s:PySem.W.SharedT):AlP:=obsA asN fa fn aa1 tf ex (HandSHeadRun.getT s)
theorem acQ (s:PySem.W.SharedT):ob s=hk.obs s.abs:=Y6 (HandSHeadRun.getT_eq s)
theorem aaV (w:World) (os:OsState):(HandSHeadRun.endF (HandSHeadRun.stepQ (HandSHeadRun.denQ HandSHeadRun.tabQ) R.prog w) 26000 R.prog w os).map ob=some (hk.val w):=by
 kernel_rfl
theorem V5 (w:World) (os:OsState):(HandSHeadRun.endF (HandSHeadRun.stepQ (HandSHeadRun.denQ HandSHeadRun.tabQ) R.prog w) 26000 R.prog w os).map (fun s=>(HandSHeadRun.looksF R.prog (boot_heap w.params) s.abs,HandSHeadRun.seenQ (PySem.W.view R.prog [77]) ((["NetError","BadNet","BadNumber","BadRoad","BadHead","BadFailed","BadParcel","BadChoices","BadLine","TooGreat","MOST_ROADS","MOST_HOUSES","MOST_LABELS","MOST_LETTERS","MOST_GROUPS","MOST_CHOICES","MOST_WORD","LETTERS","ANY","ALL","HOME","is_whole","is_among","is_tuple","is_word","is_road_pair","is_label","are_labels","is_key","is_choice"]:List Str)++(["is_group","is_row","need_items","need_net","need_failed","MOST_STACK","is_parcel_of","need_all","DIGITS","LABELS","ROAD","ROW","NO_LABEL","TO","OR","ELSE","choice_words","group_text","row_text","net_text","parcel_words","parcel_text","Line","groups_in","key_in","row_in","labels_in","read_net","parcel_in","read_parcel"]:List Str)++(["_law_mixed","_law_folded","_law_draw","_law_begun","_law_like","_law_label_menu","_law_choice","_law_groups","_law_net","_law_parcel","_law_said","_law_due"]:List Str)) (importedModules R.prog.main.body) (fun s=>xlAt (PySem.W.view R.prog [77]) [] s&&recOk R.toRowW.records s) s.abs))=some (true,openGood (PySem.W.view R.prog [77]) ((["NetError","BadNet","BadNumber","BadRoad","BadHead","BadFailed","BadParcel","BadChoices","BadLine","TooGreat","MOST_ROADS","MOST_HOUSES","MOST_LABELS","MOST_LETTERS","MOST_GROUPS","MOST_CHOICES","MOST_WORD","LETTERS","ANY","ALL","HOME","is_whole","is_among","is_tuple","is_word","is_road_pair","is_label","are_labels","is_key","is_choice"]:List Str)++(["is_group","is_row","need_items","need_net","need_failed","MOST_STACK","is_parcel_of","need_all","DIGITS","LABELS","ROAD","ROW","NO_LABEL","TO","OR","ELSE","choice_words","group_text","row_text","net_text","parcel_words","parcel_text","Line","groups_in","key_in","row_in","labels_in","read_net","parcel_in","read_parcel"]:List Str)++(["_law_mixed","_law_folded","_law_draw","_law_begun","_law_like","_law_label_menu","_law_choice","_law_groups","_law_net","_law_parcel","_law_said","_law_due"]:List Str))):=by
 kernel_rfl
theorem run (w:World):HandSHeadRun.RunEq R (PySem.W.view R.prog [77]) hk ob 26000 ((["NetError","BadNet","BadNumber","BadRoad","BadHead","BadFailed","BadParcel","BadChoices","BadLine","TooGreat","MOST_ROADS","MOST_HOUSES","MOST_LABELS","MOST_LETTERS","MOST_GROUPS","MOST_CHOICES","MOST_WORD","LETTERS","ANY","ALL","HOME","is_whole","is_among","is_tuple","is_word","is_road_pair","is_label","are_labels","is_key","is_choice"]:List Str)++(["is_group","is_row","need_items","need_net","need_failed","MOST_STACK","is_parcel_of","need_all","DIGITS","LABELS","ROAD","ROW","NO_LABEL","TO","OR","ELSE","choice_words","group_text","row_text","net_text","parcel_words","parcel_text","Line","groups_in","key_in","row_in","labels_in","read_net","parcel_in","read_parcel"]:List Str)++(["_law_mixed","_law_folded","_law_draw","_law_begun","_law_like","_law_label_menu","_law_choice","_law_groups","_law_net","_law_parcel","_law_said","_law_due"]:List Str)) w:=fun os=>Vi (V5 w os) (aaV w os)
end PV.Law
namespace PV
open PySem PySem.W PySem.Calls PyProof.Rows L2
structure DOk (am:Addr) (s:DS):Prop where
 at_:s.at_=some am
 s0:0≤s.spot
 cl:s.cells.length=64
 gl:s.great.length≤1000
theorem Yq {am:Addr}{l:Int}{s:DS}(h:DOk am s) (hs:s.spot<1125899906842624) (h0:0<l) (hl:l<1073741824) :
  ∃r s',dU [.raw (.ref am),.int l] s = .ok (.int r) s'∧0≤r∧r<l∧DOk am s'∧s'.spot=s.spot+1:=by
 have e:dU [.raw (.ref am),.int l] s=Eb l s:=if_pos ⟨h.at_,h0,hl,h.s0,hs,h.cl,h.gl⟩
 have s0:=h.s0
 rw [e]
 unfold Eb
 split
 ·exact ⟨_,_,rfl,Int.emod_nonneg _ (by omega),Int.emod_lt_of_pos _ h0,⟨h.at_,by show 0≤s.spot+1;omega,h.cl,by simpa using h.gl⟩,rfl⟩
 ·exact ⟨_,_,rfl,Int.emod_nonneg _ (by omega),Int.emod_lt_of_pos _ h0,⟨h.at_,by show 0≤s.spot+1;omega,h.cl,h.gl⟩,rfl⟩
theorem Yc (ns:List Int):(Iw ns).length=ns.length:=by simp [Iw]
theorem T5 {am:Addr}{s:DS}{ns:List Int}(h1:s.cells.length=64) (h2:s.great=Iw ns) (h3:s.spot=0) (h4:s.at_=some am) (hn:ns.length≤1000):DOk am s:=
 ⟨h4,by omega,h1,by rw [h2,Yc];exact hn⟩
variable {G:Gd}
section
variable {α:Type}(le:α→α→Bool)
def insI (x:α):List α→List α
 | []=>[x]
 | y::t=>if le x y=true then x::y::t else y::insI x t
def Bg:List α→List α
 | []=>[]
 | x::t=>insI le x (Bg t)
theorem Ol {x z:α}:∀{l:List α},z∈insI le x l↔z=x∨z∈l
 | []=>by simp [insI]
 | y::t=>by
  unfold insI
  split
  ·simp
  ·simp only [List.mem_cons,Ol (l:=t)]
   constructor
   ·rintro (h | h | h)
    ·exact .inr (.inl h)
    ·exact .inl h
    ·exact .inr (.inr h)
   ·rintro (h | h | h)
    ·exact .inr (.inl h)
    ·exact .inl h
    ·exact .inr (.inr h)
variable {le}
theorem RD (T:TotalLe le) (x:α):∀{l:List α},l.Pairwise (fun a b=>le a b=true)→(insI le x l).Pairwise (fun a b=>le a b=true)
 | [],_=>by simp [insI]
 | y::t,h=>by
  unfold insI
  have h0:=List.pairwise_cons.mp h
  split
  ·rename_i hx
   refine List.pairwise_cons.mpr ⟨fun z hz=> ?_,h⟩
   rcases List.mem_cons.mp hz with e | e
   ·rw [e];exact hx
   ·exact T.trans _ _ _ hx (h0.1 z e)
  ·rename_i hx
   refine List.pairwise_cons.mpr ⟨fun z hz=> ?_,RD T x h0.2⟩
   rcases (Ol le).mp hz with e | e
   ·rw [e]
    have:=T.total x y
    cases hxy:le x y with
    | true=>exact absurd hxy hx
    | false=>rw [hxy] at this;simpa using this
   ·exact h0.1 z e
theorem Mf (T:TotalLe le):∀l:List α,(Bg le l).Pairwise (fun a b=>le a b=true)
 | []=> .nil
 | x::t=>RD T x (Mf T t)
theorem Ed (T:TotalLe le) (c x:α):∀l:List α,(insI le x l).filter (sameRank le c)=(x::l).filter (sameRank le c)
 | []=>rfl
 | y::t=>by
  unfold insI
  split
  ·rfl
  ·rename_i hx
   rw [List.filter_cons,Ed T c x t]
   cases hy:sameRank le c y with
   | false=>
    simp only [List.filter_cons,hy,Bool.false_eq_true,if_false]
   | true=>
    cases hq:sameRank le c x with
    | false=>simp only [List.filter_cons,hy,hq,Bool.false_eq_true,if_false,if_true]
    | true=>
     exfalso
     unfold sameRank at hy hq
     rw [Bool.and_eq_true] at hy hq
     exact hx (T.trans _ _ _ (by first | exact hq.2 | exact hq.1) (by first | exact hy.1 | exact hy.2))
theorem Bp (T:TotalLe le) (c:α):∀l:List α,(Bg le l).filter (sameRank le c)=l.filter (sameRank le c)
 | []=>rfl
 | x::t=>by
  show (insI le x (Bg le t)).filter _=_
  rw [Ed T,List.filter_cons,Bp T c t,←List.filter_cons]
theorem XH (T:TotalLe le) (l:List α):l.mergeSort le=Bg le l:=(sort_unique T (Mf T l) fun c=>Bp T c l).symm
end
section
variable {prog:Program}{w:World}{A:Around}{E:Value→Shared→Prop}{s:Shared}
theorem M8 {l:Addr}{vs:List Value}{Q:List Value→Shared→Prop}(hl:IsTup s.heap l vs.toArray)
  (h:Q vs { s with heap:=(s.heap.push (seqObj "list" #[] 0)).update s.heap.objs.size (Obj.mapSeq (· ++ vs.toArray))}) (hsz:vs.length≤sizeLine):wpAny (model prog w) A (collect (.ref l)) Q E s:=by
 obtain ⟨o,ho,hc,n,hd⟩:=id hl
 unfold collect
 refine wpAny_bind (wpAny_runValue (codeAny_builtin entry_proto_collect' ?_))
 refine wpAny_bind (wpAny_newList (wpAny_pure ⟨Code.quiet_builtin _ (by decide +kernel),codeAny_builtin entry_list_iadd' ?_⟩))
 show wpAny _ _ (Builtin.List.listExtendWith (.ref s.heap.objs.size) (.ref l) (.ref s.heap.objs.size)) _ _ { s with heap:=s.heap.push (seqObj "list" #[] 0)}
 unfold Builtin.List.listExtendWith
 have g:(s.heap.push (seqObj "list" #[] 0)).get? l=some o:=Heap.get?_push_of_some _ ho
 refine wpAny_bind (wpAny_typeOf (T:= "tuple") ⟨o,g,hc⟩ ?_)
 rw [if_pos (by rw [show (Value.type "tuple" == Value.type "tuple")=true from rfl];simp)]
 refine wpAny_bind (listItems_at g hd ?_)
 refine wpAny_bind (listItems_at (xs:= #[]) (n:=0) (Heap.get?_push_size _ rfl) rfl ?_)
 rw [if_neg (by simp)]
 refine wpAny_bind (listUpdate_at (xs:= #[]) (n:=0) (Heap.get?_push_size _ rfl) rfl ?_ (Nat.zero_le _) (by show (#[]++vs.toArray).size≤sizeLine+1;simp only [Array.size_append,List.size_toArray,List.length_nil];omega))
 refine wpAny_pure ?_
 refine wpAny_bind (wpAny_load (get?_update_seq (Heap.get?_push_size _ rfl) _) ?_)
 show wpAny _ _ (pure ((#[]:Array Value)++vs.toArray).toList) Q E _
 rw [show ((#[]:Array Value)++vs.toArray).toList=vs by simp]
 exact wpAny_pure h
theorem QV {l:Addr}{vs:List Value}{Q:Value→Shared→Prop}(hl:IsTup s.heap l vs.toArray) (hL:vs.length≤sizeLine)
  (body:∀E':Value→Shared→Prop,wpAny (model prog w) A.in1.in1 (Builtin.«list.sort» ⟨[.ref (s.heap.objs.size+1)],[]⟩) (fun f s'=>f = .done (.ret .none)∧Q (.ref (s.heap.objs.size+1)) s') E' { s with heap:=copyHeap s.heap vs}) :
  wpAny (model prog w) A (call (.builtin "sorted") [.ref l]) Q E s:=by
 refine call_function_entry_kw kind_sorted plain_sorted entry_sorted (args_sorted1 _) ?_
 unfold Builtin.«sorted»
 refine wpAny_bind (m:=checkCount "sorted" 1 1 _) (wpAny_pure ?_)
 refine wpAny_bind (M8 hl ?_ hL)
 refine wpAny_bind (wpAny_newList ?_ hL)
 have z:((s.heap.push (seqObj "list" #[] 0)).update s.heap.objs.size (Obj.mapSeq (· ++ vs.toArray))).objs.size=s.heap.objs.size+1:=by
  rw [Heap.size_update,size_push']
 show wpAny _ _ _ _ _ { s with heap:=copyHeap s.heap vs}
 rw [z]
 refine wpAny_bind (wpAny_holding (wpAny_call_entry_kw slot_list_sort ⟨_,copyHeap_at s.heap vs,rfl⟩ entry_list_sort ?body (args_list_sort _)))
 case body=>
  refine wpAny_mono (body _) (fun f s' hf=> ?_) fun _ _ e=>e
  obtain ⟨rfl,hq⟩:=hf
  exact ⟨_,rfl,wpAny_pure ⟨_,rfl,hq⟩⟩
theorem Kh {β:Type}{vs:List Value}{bs:List β}{enc:β→PyData}{R:Value→β→Prop}{l:Addr}{Q:Value→Shared→Prop}(hl:IsTup s.heap l vs.toArray) (e:EachIs R vs bs) (er:EachIs (fun v b=>∃as,Reads s.heap v (enc b) as) vs bs) (hal:AllAlike (bs.map enc)) (hk:Sortable (bs.map enc)) (hL:bs.length≤sizeLine)
  (hu:∀b,b∈bs→A.units+2+(enc b).depth<cLine) (h:∀out,out.length=bs.length→EachIs R out (bs.mergeSort (dataLe false enc))→Q (.ref (s.heap.objs.size+1)) { s with heap:=sortedAll s.heap vs (List.toArray out)}) :
  wpAny (model prog w) A (call (.builtin "sorted") [.ref l]) Q E s:=by
 have er':EachIs (fun v b=>∃as,Reads (sortingHeap (copyHeap s.heap vs) (s.heap.objs.size+1) vs) v (enc b) as) vs bs:=er.mono fun _ _ ⟨as,r⟩=>⟨as,PyProof.Rows.Reads.keeps (fun _ _=>sorting_copy_old) r⟩
 have S:=SortsAt.data (prog:=prog) (w:=w) (A:=A.in1.in1) (s:={ s with heap:=sortingHeap (copyHeap s.heap vs) (s.heap.objs.size+1) vs}) (each_map (R:=fun v d=>∃as,Reads (sortingHeap (copyHeap s.heap vs) (s.heap.objs.size+1) vs) v d as) enc er') hal hk (bound_map hu)
 have hl2:vs.length≤sizeLine:=by rw [e.length];exact hL
 exact QV hl hl2 fun _=>list_sort_vals (s:={ s with heap:=copyHeap s.heap vs}) (copyHeap_at s.heap vs) S hl2 ⟨rfl,h _ (by rw [sortVals_length false rfl];exact e.length) (sortVals_data false e er' hal)⟩
end
variable {G:Gd}
def encD (d:D):PyData:=(D.pr d).getD .none
def Wj:PyData→Bool
 | .tuple (_::_)=>true
 | _=>false
def adk:PyData→Bool
 | .none=>false
 | .tuple _=>false
 | _=>true
def okS (ps:List PyData):Bool:=(ps.all fun p=>ps.all fun q=>alike p q)&&(ps.all Wj||ps.all adk)&&(ps.all fun p=>decide (p.depth≤60))&&decide (ps.length≤sizeLine)
def leS:D→D→Bool:=dataLe false encD
def Zx (xs:List D):M (List D):=match D.zP xs with
 | some ps=>if okS ps=true then ret (Bg leS xs) else stk
 | none=>stk
def Fg:List D→M (List D)
 | [.lst xs]=>Zx xs
 | [.tup xs]=>Zx xs
 | _=>stk
theorem abS {ps:List PyData}(h:okS ps=true):AllAlike ps∧Sortable ps∧(∀p,p∈ps→p.depth≤60)∧ps.length≤sizeLine:=by
 unfold okS at h
 simp only [Bool.and_eq_true,Bool.or_eq_true,List.all_eq_true,decide_eq_true_eq] at h
 obtain ⟨⟨⟨h1,h2⟩,h3⟩,h4⟩:=h
 refine ⟨h1,?_,h3,h4⟩
 rcases h2 with h2 | h2
 ·refine .inl fun d hd=> ?_
  have:=h2 d hd
  unfold Wj at this
  split at this
  ·exact ⟨_,_,rfl⟩
  ·cases this
 ·refine .inr fun d hd=> ?_
  have:=h2 d hd
  constructor
  ·rintro rfl;cases this
  ·rintro xs rfl;cases this
theorem Rm:∀{ds:List D}{ps:List PyData},D.zP ds=some ps→ds.map encD=ps
 | [],_,e=>by unfold D.zP at e;cases e;rfl
 | d::ds,_,e=>by
  unfold D.zP at e
  cases e1:d.pr with
  | none=>rw [e1] at e;cases e
  | some x=>
   cases e2:D.zP ds with
   | none=>rw [e1,e2] at e;cases e
   | some l=>
    rw [e1,e2] at e
    cases e
    rw [List.map_cons,Rm e2]
    unfold encD
    rw [e1]
    rfl
section
variable {X:Cx}{pins:List (Addr×Obj)}{σ:L2.St}{H:Hp}{s:Shared}
theorem La:∀{vs:List V}{us:List Value}{ds:List D},DvL X.K H vs ds→Vals vs us→EachIs (fun u d=>∃v,RelV v u∧Dv X.K H v d) us ds
 | _,_,_,.nil,r=>by cases r;exact .nil
 | _,_,_,.cons a q,r=>by
  cases r with
  | cons r1 r2=>exact .cons ⟨_,r1,a⟩ (La q r2)
theorem Q9:∀{us:List Value}{ds:List D},EachIs (fun u d=>∃v,RelV v u∧Dv X.K H v d) us ds→∃vs,Vals vs us∧DvL X.K H vs ds
 | _,_,.nil=>⟨[],.nil,.nil⟩
 | _,_,.cons ⟨v,r,d⟩ t=>by
  obtain ⟨vs,r2,d2⟩:=Q9 t
  exact ⟨v::vs,.cons r r2,.cons d d2⟩
theorem Ld (I:Inv X pins σ H s) (ns:H sysModules=none):∀{vs:List V}{us:List Value}{ds:List D}{ps:List PyData},DvL X.K H vs ds→D.zP ds=some ps→Vals vs us→EachIs (fun u d=>∃as,Reads s.heap u (encD d) as) us ds
 | _,_,_,_,.nil,e,r=>by cases r;exact .nil
 | _,_,_,_,.cons (d:=d) (ds:=ds) a q,e,r=>by
  unfold D.zP at e
  cases r with
  | cons r1 r2=>
   cases e1:d.pr with
   | none=>rw [e1] at e;cases e
   | some x=>
    cases e2:D.zP ds with
    | none=>rw [e1,e2] at e;cases e
    | some l=>
     obtain ⟨as,h1,_⟩:=Dv.Yi I ns a e1 r1
     refine .cons ⟨as,?_⟩ (Ld I ns q e2 r2)
     unfold encD
     rw [e1]
     exact h1
end
def acB (K:Frag):List V→Hp→VK→Prop:=fun vs H Q=>∃(B:Hp) (a:Addr) (xs:List V) (ds:List D) (ps:List PyData),Sub B H∧vs=[.ref a]∧(SqL K H a xs∨SqT K H a xs)∧DvL K B xs ds∧D.zP ds=some ps∧okS ps=true ∧
 ∀(ys:List V) (p:Addr),H p=none→DvL K B ys (Bg leS ds)→Q (.ref p) (upd H p (.lst ys))
section
variable {X:Cx}{k:Nat}
theorem aaz {pins:List (Addr×Obj)}{σ:L2.St}{H:Hp}{s:Shared}(I:Inv X pins σ H s) (sm:∃o,X.K.lookup sysModules=some o):H sysModules=none:=by
 obtain ⟨om,em⟩:=sm
 exact (I.bs _ _ (I.ok.mod.kin _ _ em)).2
theorem Jl:TotalLe leS:=sortLe_total (listOrd itemOrd) false (fun b=>keyToks (encD b))
theorem abp (hr:RoomG k X.A) (sm:∃o,X.K.lookup sysModules=some o):CallR X (.builtin "sorted") (acB X.K):=by
 intro pins s σ H vs us Q I r h
 obtain ⟨B,a,xs,ds,ps,sb,rfl,hs,dv0,ep,ok,q⟩:=h
 have dv:=dv0.mono sb
 rw [Vals.ref1 r]
 have ns:=aaz I sm
 obtain ⟨o1,o2,o3,o4⟩:=abS ok
 have en:=Rm ep
 have hal:AllAlike (ds.map encD):=by rw [en];exact o1
 have hk:Sortable (ds.map encD):=by rw [en];exact o2
 have hL:ds.length≤sizeLine:=by
  have:=o4
  rw [←en,List.length_map] at this
  exact this
 have hu:∀b,b∈ds→X.A.units+2+(encD b).depth<cLine:=fun b hb=>by
  have:=o3 (encD b) (by rw [←en];exact List.mem_map.mpr ⟨b,hb,rfl⟩)
  have:=hr.room.un
  omega
 have fin:∀(its out:List Value),out.length=ds.length→EachIs (fun u d=>∃v,RelV v u∧Dv X.K B v d) out (ds.mergeSort (dataLe false encD))→EP X pins σ Q (.ref (s.heap.objs.size+1)) { s with heap:=sortedAll s.heap its (List.toArray out)}:=fun its out ho eo=>by
  obtain ⟨ys,ry,dy⟩:=Q9 eo
  obtain ⟨ep',he'⟩:=PyProof.Rows.sortedAll_at s.heap its (List.toArray out)
  have hlen:ys.length≤sizeLine:=by rw [ry.length,ho];exact hL
  have e1:ds.mergeSort (dataLe false encD)=Bg leS ds:=XH Jl ds
  rw [e1] at dy
  exact ⟨.ref _,upd H (s.heap.objs.size+1) (.lst ys),I.laid (t':=s.toks) (fun _ _=>PyProof.Rows.sortedAll_old) (Nat.le_succ _) ⟨hlen,out,ep',ry,he'⟩,rfl,q ys _ (I.hok.fresh (Nat.le_succ _)) dy⟩
 rcases hs with hs | hs
 ·obtain ⟨its,rv,hl,_⟩:=I.list hs
  exact sorted_data hl.isList (La dv0 rv) (Ld I ns dv ep rv) hal hk hL hu fun out ho eo=>fin its out ho eo
 ·obtain ⟨its,rv,hl,_⟩:=I.tuple hs
  exact Kh hl (La dv0 rv) (Ld I ns dv ep rv) hal hk hL hu fun out ho eo=>fin its out ho eo
theorem Wv (hr:RoomG k X.A) (sm:∃o,X.K.lookup sysModules=some o):ClL X (.builtin "sorted") Fg:=by
 refine ⟨_,abp hr sm,fun W B H s vs ds Q E k w r h=> ?_⟩
 have go:∀{a:Addr}{xs:List V}{es:List D},(SqL X.K H a xs∨SqT X.K H a xs)→DvL X.K B xs es→pX W X.K B H (Zx es s) Q E→acB X.K [.ref a] H Q:=fun {a xs es} hs dv h=>by
  unfold Zx at h
  cases e:D.zP es with
  | none=>rw [e] at h;exact (show False from h).elim
  | some ps=>
   rw [e] at h
   have h:pX W X.K B H ((if okS ps=true then ret (Bg leS es) else stk:M (List D)) s) Q E:=h
   split at h
   ·rename_i ok
    exact ⟨Fe B,a,xs,es,ps,k.sub,rfl,hs,dv.Fe (D.Bu e),e,ok,fun ys p hp dy=>h.bU k w hp (dy.mono Rx)⟩
   ·exact (show False from h).elim
 unfold Fg at h
 split at h
 ·cases r with
  | cons a r=>
   cases r
   obtain ⟨p,vs,rfl,hp,r1⟩:=a.lst k
   exact go (.inl (SqL.of hp)) r1 h
 ·cases r with
  | cons a r=>
   cases r
   obtain ⟨p,vs,rfl,hp,r1⟩:=a.tup
   exact go (.inr (k.t hp)) r1 h
 ·exact (show False from h).elim
def Vs:PyData→Bool
 | .none=>false
 | _=>true
def Vq (x y:D):M D:=K7 x.pr y.pr fun p q=>if alike p q=true∧Vs p=true∧p.depth≤60 then ret (.bl (dataLt p q)) else stk
def adU (K:Frag):R2:=fun x y H Q=>∃(dx dy:D) (p q:PyData),Dv K H x dx∧Dv K H y dy∧dx.pr=some p∧dy.pr=some q∧alike p q=true∧p ≠ .none∧p.depth≤60∧Q (.bl (dataLt p q)) H
theorem aby (hr:RoomG k X.A) (sm:∃o,X.K.lookup sysModules=some o):OpR X (compareOp .Lt) (adU X.K):=by
 intro pins s σ H x y v u Q I rx ry h
 obtain ⟨dx,dy,p,q,hx,hy,ex,ey,al,nn,hd,z⟩:=h
 have ns:=aaz I sm
 obtain ⟨as,h1,_⟩:=hx.Yi I ns ex rx
 obtain ⟨bs,h2,_⟩:=hy.Yi I ns ey ry
 have hu:X.A.units+min p.depth q.depth<cLine:=by
  have:=hr.room.un
  have:=Nat.min_le_left p.depth q.depth
  omega
 exact rcLt_alike p q X.A s v u as bs h1 h2 al nn hu X.prog X.w X.xe _ ⟨.bl (dataLt p q),H,I,rfl,z⟩
theorem adb (hr:RoomG k X.A) (sm:∃o,X.K.lookup sysModules=some o):Op2 X (compareOp .Lt) Vq:=by
 refine .mk' (aby hr sm) fun W B H s x y dx dy Q E k w rx ry h=> ?_
 unfold Vq at h
 obtain ⟨p,q,e1,e2,h⟩:=uV h
 split at h
 ·rename_i hc
  have at_:∀{v:V}{d:D}{p:PyData},d.pr=some p→Dw X.K B H v d→Dv X.K H v d:=fun {v d p} ep a=>by
   rcases a with a | ⟨q,u,rfl,hp,r⟩
   ·exact (a.Fe (D.zL ep)).mono k.sub
   ·cases r with
    | lst r=>exact .lst hp ((r.Fe (by have z:=D.zL ep;unfold D.sol at z;exact z)).mono k.sub)
    | _=>have z:=D.zL ep;unfold D.sol at z;cases z
  refine ⟨dx,dy,p,q,at_ e1 rx,at_ e2 ry,e1,e2,hc.1,?_,hc.2.2,h.bU k w (.bl _)⟩
  rintro rfl
  cases hc.2.1
 ·exact h.elim
end
variable {G:Gd}
def Ks (xs ys:List D):List D:=(xs.zip ys).map fun p=> .tup [p.1,p.2]
def abM:List D→M (List D)
 | [.lst xs,.lst ys]=>ret (Ks xs ys)
 | [.tup xs,.tup ys]=>ret (Ks xs ys)
 | _=>stk
theorem Ny (xs ys:List D):(Ks xs ys).length=min xs.length ys.length:=by simp [Ks]
theorem Ws {xs ys:List D}{i:Nat}{x y:D}(h1:xs[i]?=some x) (h2:ys[i]?=some y):(Ks xs ys)[i]?=some (.tup [x,y]):=by
 unfold Ks
 have e:(xs.zip ys)[i]?=some (x,y):=by rw [List.getElem?_zip_eq_some];exact ⟨h1,h2⟩
 rw [List.getElem?_map,e]
 rfl
theorem T6 {K:Frag}{a b:Addr}{xs ys:List V}{n:Nat}(hn:n=min xs.length ys.length):Walk (RZ.ItzT K a b) n (fun H=>SqT K H a xs∧SqT K H b ys) (YPair (fun i=>xs[i]?) (fun i=>ys[i]?)):=by
 subst hn
 refine ⟨fun i _ hi q=>⟨xs,ys,xs[i]'(by omega),ys[i]'(by omega),q.1,q.2,?_,?_⟩,fun _ q=>⟨xs,ys,q.1,q.2,by omega⟩,fun i H v H' _ q y=> ?_⟩
 ·simp
 ·simp
 ·obtain ⟨T,x,z,h1,h2,h3,h4,h5⟩:=y
  exact ⟨T,x,z,h1,h2,h3,h4 xs q.1,h5 ys q.2⟩
section
variable {W:Wd}{K:Frag}{B H:Hp}{a b:Addr}{vs us:List V}{ds es:List D}{strict:Bool}
theorem RX {i:Nat}{B' H':Hp}{x:V}{H2:Hp}{s:DS}(r1:DvL K B vs ds) (r2:DvL K B us es) (hs:Sub B B') (k:Kn W B' H') (w:W.ok s B' H') (y:YPair (fun i=>vs[i]?) (fun i=>us[i]?) i H' x H2):∃B2 d,Gr W B' H' B2 H2∧W.ok s B2 H2∧(Ks ds es)[i]?=some d∧Dv K B2 x d:=by
 obtain ⟨T,x,y,rfl,hn,rfl,ex,ey⟩:=y
 obtain ⟨d1,e1,q1⟩:=r1.get ex
 obtain ⟨d2,e2,q2⟩:=r2.get ey
 refine ⟨_,.tup [d1,d2],Gr.new k w hn,w.nw k hn,Ws e1 e2,?_⟩
 have u:=hs.trans (bh (o:= .tup [x,y]) (cA k hn))
 exact .tup upd_same (.cons (q1.mono u) (.cons (q2.mono u) .nil))
theorem Uo (h1:SqL K B a vs) (h2:SqL K B b us) (r1:DvL K B vs ds) (r2:DvL K B us es):oV strict W K B H (Itz K a b) (Ks ds es):=
 ⟨fun H=>SqL K H a vs∧SqL K H b us,_,walk_zip (by rw [Ny,r1.len,r2.len]),fun B' H' hs k hx _=>⟨k.l (hs.l h1),k.l (hs.l h2)⟩,fun i B' H' x H2 s hs k w hi y=>RX r1 r2 hs k w y⟩
theorem Ur (h1:B a=some (.tup vs)) (h2:B b=some (.tup us)) (r1:DvL K B vs ds) (r2:DvL K B us es):oV strict W K B H (RZ.ItzT K a b) (Ks ds es):=
 ⟨fun H=>SqT K H a vs∧SqT K H b us,_,T6 (by rw [Ny,r1.len,r2.len]),fun B' H' hs k hx _=>⟨k.t (hs _ _ h1),k.t (hs _ _ h2)⟩,fun i B' H' x H2 s hs k w hi y=>RX r1 r2 hs k w y⟩
end
section
variable {X:Cx}{Wx:WX}{e e2:Expr}{ms:bJ (List D)}{pos p:Pos}
theorem abr {elts:List Expr}{kk:Nat}{tpos:Pos}{strict:Bool}(hg:Gl X "zip") (hm:X.mg "zip" = none) (ha:SA G X Wx [e,e2] ms)
  (hs:starEach [e,e2] X.env=(false,eval e X.env)::starEach [e2] X.env:=by rfl) (hpl:(backTo pos (starEach [e2] X.env)).any (·.1)=false:=by rfl) :
  SI G X Wx strict (.Tuple elts kk tpos) (.Call (.Name "zip" p) [e,e2] [] pos) (fun ls=>bnd (ms ls) abM):=by
 obtain ⟨t,pt,ht⟩:=ha.ex
 refine ⟨_,RZ.pi_zipA hg hm pt hs hpl,fun W H0 σ B H ls s R k w sm h=> ?_⟩
 refine ht W H0 σ B H ls s _ k w sm ?_
 cases e1:ms ls s with
 | stuck=>rw [aO e1] at h;exact (show False from h).elim
 | exc C fs s'=>
  rw [aC e1] at h
  exact h
 | ok ds s1=>
  rw [aP e1] at h
  intro vs B1 H1 g1 w1 r1
  unfold abM at h
  split at h
  ·cases r1 with
   | cons a r=>
    cases r with
    | cons b r=>
     cases r
     cases a with
     | lst ha ra=>
      cases b with
      | lst hb rb=>exact ⟨_,_,_,_,rfl,.inl ⟨SqL.of (g1.kn.get ha),SqL.of (g1.kn.get hb),h _ B1 H1 g1 w1 (Uo (SqL.of ha) (SqL.of hb) ra rb)⟩⟩
  ·cases r1 with
   | cons a r=>
    cases r with
    | cons b r=>
     cases r
     cases a with
     | tup ha ra=>
      cases b with
      | tup hb rb=>exact ⟨_,_,_,_,rfl,.inr ⟨g1.kn.t ha,g1.kn.t hb,h _ B1 H1 g1 w1 (Ur ha hb ra rb)⟩⟩
  ·exact (show False from h).elim
end
variable {G:Gd}
def valD {κ:Type} [DecidableEq κ] (kvs:List (κ×D)) (k:κ):Option D:=(kvs.find? fun kv=>decide (kv.1=k)).map (·.2)
section
variable {X:Cx}{Wx:WX}{a b:Expr}{ma mb:bJ D}{pos:Pos}{k:Nat}
def aay:D→Bool
 | .Ei _=>true
 | .DG _=>true
 | _=>false
variable {c:Expr}{mc:bJ D}{apos:Pos}
end
variable {G:Gd}
def kD:Key→D
 | .inl i=> .int i
 | .inr x=> .str x
variable {G:Gd}
def GL (T:List NdefX.NTab) (w:World) (f:Addr) (B0:Hp) (c:Addr) (q:Str):Gd:=⟨T,w,f,fun W B H=>Sub B0 B∧¬W.gq c∧H c=some (LamX.CodeO c q)∧Nt B c,fun s k h=>⟨h.1.trans s,h.2.1,(k _ _ h.2.1 h.2.2.2 h.2.2.1).2,(k _ _ h.2.1 h.2.2.2 h.2.2.1).1⟩⟩
def Zg (o:Option Sl):Sl:=match o with
 | some (.va d)=> .va d
 | _=> .un
def gJ (cap:List (Nat×Str)) (ls:List Sl):List Sl:=cap.map fun p=>Zg ls[p.1]?
def lamD (n:Nat) (capL:List Sl) (mlam:bJ D) (ds:List D):M D:=if ds.length=n then mlam (ds.map Sl.va++capL) else stk
def Jb (i:Nat) (call:List D→M D) (ms:bJ (List D)):bJ D:=fun ls=>match ls[i]? with
 | some .cl=>bnd (ms ls) call
 | _=>stk
structure Act (G:Gd) (Z:Cx) (a:Str) (i:Nat) (call:List D→M D):Prop where
 c1:∀{pn:List (Addr×Obj)}{xe:Value→Shared→Prop}{Wc:WX}{e:Expr}{es:List Expr}{ms:bJ (List D)}{p1 p2:Pos},Takes (Z.tr pn xe) Wc→SA G (Z.tr pn xe) Wc (e::es) ms→starEach (e::es) Z.env=(false,eval e Z.env)::starEach es Z.env→(backTo p2 (starEach es Z.env)).any (·.1)=false →
  SE G (Z.tr pn xe) Wc (.Call (.Name a p1) (e::es) [] p2) (Jb i call ms)
 c0:∀{pn:List (Addr×Obj)}{xe:Value→Shared→Prop}{Wc:WX}{p1 p2:Pos},Takes (Z.tr pn xe) Wc→SE G (Z.tr pn xe) Wc (.Call (.Name a p1) [] [] p2) (Jb i call (fun _=>ret []))
def spL (K:Frag) (T:List NdefX.NTab) (B0:Hp) (c:Addr) (q:Str) (call:List D→M D):Sp:=fun vs H Q E=>∃(W:Wd) (B:Hp) (s:DS) (ds:List D),(W.tb=T∧W.fr=K)∧Sub B0 B∧Kn W B H∧W.ok s B H∧DvL K B vs ds∧H c=some (LamX.CodeO c q)∧Ans W K B H (call ds s) Q E
section
variable {X:Cx}{pins:List (Addr×Obj)}{σ:L2.St}{H HZ:Hp}{s sZ:Shared}{T:List NdefX.NTab}{ps:List Str}{cap:List (Nat×Str)}{q:Str}{params:Arguments}{body:Expr}{scope:Scope}{f c:Addr}{k:Nat}{mlam:bJ D}{B0:Hp}{ls:List Sl}{W0:Wd}{H00:Hp}
theorem Xg {W:Wd}{B H2:Hp}{vs:List V}{ds:List D}(sm:Sm G W0 X.K H00 B0 H σ ls) (sb:Sub B0 B) (r:DvL X.K B vs ds) (et:W.tb=T∧W.fr=X.K) :
  Sm (G0 T X.w) W X.K H2 B H2 (vs.map some++cap.map fun p=>(σ[p.1]?).getD none) (ds.map Sl.va++gJ cap ls):=by
 have el:=r.len
 have isva:∀{i:Nat}{x:Sl},(ds.map Sl.va++gJ cap ls)[i]?=some x→x.own=false∧x ≠ .cl:=fun {i x} e=>by
  by_cases hi:i<ds.length
  ·rw [List.getElem?_append_left (by simpa using hi),List.getElem?_map,List.getElem?_eq_getElem hi] at e
   cases e
   exact ⟨rfl,(fun z=>(nomatch z))⟩
  ·rw [List.getElem?_append_right (by simp;omega)] at e
   unfold gJ at e
   rw [List.getElem?_map] at e
   obtain ⟨p,_,ep⟩:=Option.map_eq_some_iff.mp e
   subst ep
   unfold Zg
   split
   ·exact ⟨rfl,(fun z=>(nomatch z))⟩
   ·exact ⟨rfl,(fun z=>(nomatch z))⟩
 refine ⟨by simp [el,gJ],fun i x e=> ?_,fun i j x y p _ e _ o1 _ _=>(by rw [(isva e).1] at o1;cases o1),trivial,et⟩
 by_cases hi:i<ds.length
 ·rw [List.getElem?_append_left (by simpa using hi),List.getElem?_map,List.getElem?_eq_getElem hi] at e
  cases e
  obtain ⟨v,e1,q⟩:=r.getD (List.getElem?_eq_getElem hi)
  refine ⟨some v,?_,v,rfl,q⟩
  rw [List.getElem?_append_left (by simpa [el] using hi),List.getElem?_map,e1]
  rfl
 ·rw [List.getElem?_append_right (by simp;omega)] at e
  unfold gJ at e
  simp only [List.length_map] at e
  rw [List.getElem?_map] at e
  obtain ⟨p,hp,ep⟩:=Option.map_eq_some_iff.mp e
  refine ⟨(σ[p.1]?).getD none,?_,?_⟩
  ·rw [List.getElem?_append_right (by simp [el];omega),List.getElem?_map]
   simp only [List.length_map,el,hp]
   rfl
  ·subst ep
   unfold Zg
   split
   ·rename_i d hd
    obtain ⟨ov,e1,v,e2,r2⟩:=sm.sl p.1 _ hd
    subst e2
    rw [e1]
    exact ⟨v,rfl,r2.mono sb⟩
   ·trivial
variable {Ng:List Str}{qg:Str}{sg:Scope}{g:Addr}{cdg:Value}{Eg:XK}{pn:List (Addr×Obj)}{xe:Value→Shared→Prop}{Wc:WX}
theorem Kl {pinsZ:List (Addr×Obj)}{σZ:L2.St}{Q:VK}{us:List Value}{vs:List V}(I:Inv X pins σ H s) (L:LamP ps X.env.scope scope) (hc:∀p∈cap,X.N[p.1]?=some p.2∧p.2∉ps) (sm:Sm G W0 X.K H00 B0 H σ ls)
  (hbind:∀(cl:List (Str×Addr)) (pm cv ctv:Value) (us:List Value),us.length=ps.length→bindArgs (kla_fn "<lambda>" q params body scope cl pm cv ctv) ⟨us,[]⟩=pure (ps.zip us))
  (hlam:∀(A:Around) (outer:List Env) (s:Shared) (H:Hp) (E:XK) (f c:Addr),RoomG k (A.deeper (zN X q scope s.heap.objs.size f c))→SE (G0 T X.w) (FT X (ps++cap.map (·.2)) q scope f c A outer s H E) (EW E) body mlam)
  (hf:B0 f=some (Ey f ⟨q,params,body,scope,cloFrom X.env.cells scope.names [],c⟩)) (hr:RoomG (k+1) (X.A.deeper (envOfC qg sg s.heap.objs.size g cdg)))
  (tk:Takes ((cxOf (L2.CX X.prog X.w) X.prog X.w X.K X.mg X.base Ng qg sg g cdg X.A X.stack s H Eg).tr pn xe) Wc)
  (IZ:Inv ((cxOf (L2.CX X.prog X.w) X.prog X.w X.K X.mg X.base Ng qg sg g cdg X.A X.stack s H Eg).tr pn xe) pinsZ σZ HZ sZ) (r:Vals vs us) (h:spL X.K T B0 c q (lamD ps.length (gJ cap ls) mlam) vs HZ Q (fun c d H'=>Wc c d σZ H')) :
  wpAny (model X.prog X.w) (X.A.deeper (envOfC qg sg s.heap.objs.size g cdg)) (call (.ref f) us) (EP ((cxOf (L2.CX X.prog X.w) X.prog X.w X.K X.mg X.base Ng qg sg g cdg X.A X.stack s H Eg).tr pn xe) pinsZ σZ Q) xe sZ:=by
 obtain ⟨W,B,sd,ds,et,sb,kn,wk,rd,hcd,an⟩:=h
 unfold lamD at an
 split at an
 case isFalse=>exact an.elim
 rename_i hld
 have hl:vs.length=ps.length:=rd.len.trans hld
 have lu:us.length=ps.length:=(Paired.length r).symm.trans hl
 obtain ⟨pm,ctv,of1⟩:=Fb IZ.hok (kn.get (sb _ _ hf))
 have un:Un (frs X.stack) [] H HZ s.heap sZ.heap:=IZ.base
 have rc:codeAny (model X.prog X.w) (X.A.deeper (envOfC qg sg s.heap.objs.size g cdg)) (.call (.ref f) ⟨us,[]⟩) (CR (L2.CX X.prog X.w) (envOfC qg sg s.heap.objs.size g cdg::X.stack) X.prog X.w HZ sZ Q (fun c d H'=>Wc c d σZ H')) sZ:=by
  refine kla_callFunE hr.room.depth of1 rfl L.co L.gen rfl (NdefX.codeO_at IZ.hok hcd) ?_
  rw [hbind _ _ _ _ us lu]
  refine wpAny_pure (wpAny_newFunctionEnv (fun y hy=>(L.own y hy).1) (fun y hy=>L.par y.1 (List.of_mem_zip hy).1) (fun h1 hns hsb=>⟨IZ.nolimit.fresh _ hsb,?_⟩) L.kind)
  show codeAny _ _ (.expr body (zN X q scope sZ.heap.objs.size f c)) _ _
  have kp:∀b o,sZ.heap.get? b=some o→h1.get? b=some o:=fun b o e=>hsb.extBut b o (Nat.ne_of_lt (Heap.lt_size e)) (Heap.get?_push_of_some _ e)
  have J:=U5 (E:=fun c d H'=>Wc c d σZ H') (cap:=cap) (q:=q) (f:=f) (c:=c) (tk:=sZ.toks+(ps.zip us).length) I L IZ.env0 hr.room.hd un hns kp r hl hc
  obtain ⟨t,pt,ht⟩:=(hlam _ (envOfC qg sg s.heap.objs.size g cdg::X.stack) sZ HZ (fun c d H'=>Wc c d σZ H') f c (hr.deeper _)).ex
  refine kla_codeExpr (wpAny_mono (pt.run [] _ _ HZ Q J (ht W HZ _ B HZ _ sd Q kn wk (Xg sm sb rd et) an)) (fun v s' hq=> ?_) fun e s' hq=>hq)
  obtain ⟨v',H',J',rv,qv⟩:=hq
  exact ⟨v',H',J'.os,J'.bare,J'.base,J'.hok,rv,qv⟩
 refine wpAny_call (codeAny_mono rc fun z s' hq=> ?_)
 cases z with
 | error e=>exact passAt tk σZ pinsZ HZ sZ e s' IZ hq
 | ok fl=>
  cases fl with
  | ret u=>exact IZ.after hq
  | next=>exact False.elim hq
  | brk=>exact False.elim hq
  | cont=>exact False.elim hq
theorem abB {a:Str}{i:Nat}(I:Inv X pins σ H s) (L:LamP ps X.env.scope scope) (hc:∀p∈cap,X.N[p.1]?=some p.2∧p.2∉ps) (sm:Sm G W0 X.K H00 B0 H σ ls)
  (hbind:∀(cl:List (Str×Addr)) (pm cv ctv:Value) (us:List Value),us.length=ps.length→bindArgs (kla_fn "<lambda>" q params body scope cl pm cv ctv) ⟨us,[]⟩=pure (ps.zip us))
  (hlam:∀(A:Around) (outer:List Env) (s:Shared) (H:Hp) (E:XK) (f c:Addr),RoomG k (A.deeper (zN X q scope s.heap.objs.size f c))→SE (G0 T X.w) (FT X (ps++cap.map (·.2)) q scope f c A outer s H E) (EW E) body mlam)
  (hf:B0 f=some (Ey f ⟨q,params,body,scope,cloFrom X.env.cells scope.names [],c⟩)) (hr:RoomG (k+1) (X.A.deeper (envOfC qg sg s.heap.objs.size g cdg)))
  (hN:Ng[i]?=some a) (hv:Vis sg a) (hd:(a==("__debug__" : Str))=false) (hcd:(a==("__classdict__" : Str))=false) :
  Act (GL T X.w f B0 c q) (cxOf (L2.CX X.prog X.w) X.prog X.w X.K X.mg X.base Ng qg sg g cdg X.A X.stack s H Eg) a i (lamD ps.length (gJ cap ls) mlam):=by
 have rl:=@Kl G X pins σ H
 refine ⟨fun {pn xe Wc e es ms p1 p2} tk ha hs hp=> ?_,fun {pn xe Wc p1 p2} tk=> ?_⟩
 ·obtain ⟨ta,pa,ha⟩:=ha.ex
  refine ⟨fun σZ HZ Q=>σZ[i]?=some (some (.ref f))∧HZ f=some (Ey f ⟨q,params,body,scope,cloFrom X.env.cells scope.names [],c⟩)∧ta σZ HZ (fun vs H2=>spL X.K T B0 c q (lamD ps.length (gJ cap ls) mlam) vs H2 Q (fun c d H'=>Wc c d σZ H')),⟨fun pinsZ sZ σZ HZ Q IZ h=> ?_⟩,fun W H0 σ1 B H1 l1 s1 Q kn w sm1 h=> ?_⟩
  ·obtain ⟨h1,h2,h3⟩:=h
   refine wpAny_Call_Name_kw (thn ((pe_var (pos:=p1) (i:=i) hN hv hd hcd).run pinsZ sZ σZ HZ (fun v H1=>v = .ref f∧H1=HZ) IZ ⟨.ref f,h1,rfl,rfl⟩) fun u s2 ⟨v,H2,I2,r2,q2⟩=> ?_)
   obtain ⟨ev,eH⟩:=q2
   subst ev eH
   cases r2
   obtain ⟨pm,ctv,of2⟩:=Fb I2.hok h2
   refine callWith_F ⟨_,_,_,_,of2⟩ (thn (pa.run p2 pinsZ s2 σZ _ _ I2 h3) fun us s3 ⟨vs,H3,I3,r3,q3⟩=> ?_) hs hp
   have q4:=q3
   obtain ⟨W,B,sd,ds,et,sb,kn,_⟩:=q4
   obtain ⟨pm3,ctv3,of3⟩:=Fb I3.hok (kn.get (sb _ _ hf))
   exact ⟨⟨_,_,_,_,of3⟩,Kl I L hc sm hbind hlam hf hr tk I3 r3 q3⟩
  ·unfold Jb at h
   cases el:l1[i]? with
   | none=>rw [el] at h;exact (show False from h).elim
   | some sl=>
    rw [el] at h
    cases sl with
    | cl=>
     obtain ⟨ov,e1,e2⟩:=sm1.sl i _ el
     have e2:ov=some (.ref f):=e2
     subst e2
     have gd:Sub B0 B∧¬W.gq c∧H1 c=some (LamX.CodeO c q)∧Nt B c:=sm1.gd.1
     refine ⟨e1,kn.get (gd.1 _ _ hf),ha W H0 σ1 B H1 l1 s1 _ kn w sm1 ?_⟩
     have h:Ans W X.K B H1 (bnd (ms l1) (lamD ps.length (gJ cap ls) mlam) s1) Q (fun c d H'=>Wc c d σ1 H'):=h
     cases e3:ms l1 s1 with
     | stuck=>rw [aO e3] at h;exact h
     | exc C fs s'=>rw [aC e3] at h;exact h
     | ok ds s2=>
      rw [aP e3] at h
      exact fun vs B2 H2 g2 w2 r2=>⟨W,B2,s2,ds,sm1.gd.2,gd.1.trans g2.bb,g2.kn,w2,r2,g2.hh _ _ gd.2.1 gd.2.2.2 gd.2.2.1,h.grow g2⟩
    | un=>exact (show False from h).elim
    | od kvs=>exact (show False from h).elim
    | oi kvs=>exact (show False from h).elim
    | on kvs=>exact (show False from h).elim
    | bo d=>exact (show False from h).elim
    | bz d=>exact (show False from h).elim
    | va d=>exact (show False from h).elim
    | ow d=>exact (show False from h).elim
 ·refine ⟨fun σZ HZ Q=>σZ[i]?=some (some (.ref f))∧HZ f=some (Ey f ⟨q,params,body,scope,cloFrom X.env.cells scope.names [],c⟩)∧spL X.K T B0 c q (lamD ps.length (gJ cap ls) mlam) [] HZ Q (fun c d H'=>Wc c d σZ H'),⟨fun pinsZ sZ σZ HZ Q IZ h=> ?_⟩,fun W H0 σ1 B H1 l1 s1 Q kn w sm1 h=> ?_⟩
  ·obtain ⟨h1,h2,h3⟩:=h
   refine wpAny_Call_Name_kw (thn ((pe_var (pos:=p1) (i:=i) hN hv hd hcd).run pinsZ sZ σZ HZ (fun v H1=>v = .ref f∧H1=HZ) IZ ⟨.ref f,h1,rfl,rfl⟩) fun u s2 ⟨v,H2,I2,r2,q2⟩=> ?_)
   obtain ⟨ev,eH⟩:=q2
   subst ev eH
   cases r2
   obtain ⟨pm,ctv,of2⟩:=Fb I2.hok h2
   exact callWith_F0 ⟨_,_,_,_,of2⟩ (Kl I L hc sm hbind hlam hf hr tk I2 .nil h3)
  ·unfold Jb at h
   cases el:l1[i]? with
   | none=>rw [el] at h;exact (show False from h).elim
   | some sl=>
    rw [el] at h
    cases sl with
    | cl=>
     obtain ⟨ov,e1,e2⟩:=sm1.sl i _ el
     have e2:ov=some (.ref f):=e2
     subst e2
     have gd:Sub B0 B∧¬W.gq c∧H1 c=some (LamX.CodeO c q)∧Nt B c:=sm1.gd.1
     exact ⟨e1,kn.get (gd.1 _ _ hf),W,B,s1,[],sm1.gd.2,gd.1,kn,w,.nil,gd.2.2.1,h⟩
    | un=>exact (show False from h).elim
    | od kvs=>exact (show False from h).elim
    | oi kvs=>exact (show False from h).elim
    | on kvs=>exact (show False from h).elim
    | bo d=>exact (show False from h).elim
    | bz d=>exact (show False from h).elim
    | va d=>exact (show False from h).elim
    | ow d=>exact (show False from h).elim
end
variable {G:Gd}
def R3 (W:Wd) (K:Frag) (mk:Addr→LF) (B H:Hp) (r:Res (List D)) (Q:List V→Hp→Prop) (E:XK):Prop:=match r with
 | .ok ds s'=>∀(vs:List V) (f c:Addr) (B' H':Hp),Gr W B H B' H'→W.ok s' B' H'→DvL K B' vs ds→B' f=some (Ey f (mk c))→¬W.gq c→H' c=some (LamX.CodeO c (mk c).qual)→Q (vs++[.ref f]) H'
 | .exc C fs s'=>XW W K B H C fs s' E
 | .stuck=>False
structure SAL (G:Gd) (X:Cx) (Wx:WX) (es:List Expr) (mk:Addr→LF) (ms:bJ (List D)):Prop where
 ex:∃t,PA X es t∧∀(W:Wd) (H0:Hp) (σ:L2.St) (B H:Hp) (ls:List Sl) (s:DS) (Q:List V→Hp→Prop),Kn W B H→W.ok s B H→Sm G W X.K H0 B H σ ls→R3 W X.K mk B H (ms ls s) Q (fun c d H'=>Wx c d σ H')→t σ H Q
theorem R3.grow {W:Wd}{K:Frag}{mk:Addr→LF}{B H B1 H1:Hp}{r:Res (List D)}{Q:List V→Hp→Prop}{E:XK}(g:Gr W B H B1 H1) (h:R3 W K mk B H r Q E):R3 W K mk B1 H1 r Q E:=by
 cases r with
 | ok d s'=>exact fun vs f c B' H' g' w r=>h vs f c B' H' (g.trans g') w r
 | exc C fs s'=>exact fun od B' H' g' w x=>h od B' H' (g.trans g') w x
 | stuck=>exact h
theorem Od {W:Wd}{B H H1:Hp}{s:DS}{P:Addr}{q:Str}(hm:Ug P q∈W.tb) (kn:Kn W B H) (w:W.ok s B H) (k:∀b o,b≠P→H b=some o→H1 b=some o) (T1:NdefX.TabsN W.tb H1):Gr W B H B H1∧W.ok s B H1:=by
 have vP:W.gq P:= .inr ⟨_,hm,rfl⟩
 have ne:∀{b:Addr},¬W.gq b→b≠P:=fun {b} n z=>n (z ▸ vP)
 obtain ⟨ps,hP,_⟩:=w.tb _ hm
 refine ⟨⟨fun a o e=>⟨(kn a o e).1,(kn a o e).2.up fun u z=>k a u (ne (kn a o e).1) z⟩,Sub.refl _,fun a o n _ e=>k a o (ne n) e,fun _ _ _ _=>rfl⟩,⟨fun p hp=> ?_,T1,w.at_,fun i o ho=>let ⟨q,a,b,c⟩:=w.st_.at_ i o ho;⟨q,a,b,c.up (Sub.refl _) fun u=>k q u (ne b)⟩,w.st_.one,w.st_.tk⟩⟩
 have z:=w.dr p hp
 have nt:∀{a:Addr}{o:HO},H a=some o→(∀ps,o ≠ .tbl ps)→a≠P:=fun {a o} e n y=>by
  rw [y] at e
  have hP:H P=some (.tbl ps):=hP
  rw [hP] at e
  cases e
  exact n ps rfl
 exact ⟨k _ _ (nt z.m fun _ y=>nomatch y) z.m,k _ _ (nt z.c fun _ y=>nomatch y) z.c,k _ _ (nt z.g fun _ y=>nomatch y) z.g,z.ne⟩
theorem Sq {W:Wd}{s:DS}{B H:Hp}{c:Addr}{q:Str}(w:W.ok s B H) (e:H c=some (LamX.CodeO c q)):¬W.gq c:=fun v=>by
 rcases v with ⟨p,ep,h | h | h⟩ | ⟨t,ht,h⟩
 ·rw [h,(w.dr p ep).m] at e;unfold LamX.CodeO at e;cases e
 ·rw [h,(w.dr p ep).c] at e;unfold LamX.CodeO at e;cases e
 ·rw [h,(w.dr p ep).g] at e;unfold LamX.CodeO at e;cases e
 ·obtain ⟨ps,hP,_⟩:=w.tb t ht
  rw [h,hP] at e;unfold LamX.CodeO at e;cases e
section
variable {X:Cx}{Wx:WX}{e:Expr}{es:List Expr}{ma:bJ D}{ms:bJ (List D)}{mk:Addr→LF}
theorem uK {c P:Addr}{q:Str}{params:Arguments}{body:Expr}{scope:Scope}{pos:Pos}(TB:LamX.TabB X.base X.mg c P) (hcode:X.env.code = .ref c) (hq:X.env.qual ++ "<lambda>" = q) (hm:Ug P q∈G.tb) (hu:∀p∈G.tb,p.1=P→p=Ug P q)
  (hdef:defaultsOf params X.env=([],[])) (hfree:∀y∈scope.names,y.2 = .free→X.env.scope.names.lookup y.1=some .cell∨X.env.scope.names.lookup y.1=some .free) (hs:starEach [.Lambda params body scope pos] X.env=(false,eval (.Lambda params body scope pos) X.env)::starEach [] X.env:=by rfl) :
  SAL G X Wx [.Lambda params body scope pos] (fun c'=>⟨q,params,body,scope,cloFrom X.env.cells scope.names [],c'⟩) (fun _=>ret []):=by
 refine ⟨_,pa_cons (abK TB hcode hq hm hu hdef hfree) pa_nil hs,fun W H0 σ B H ls s Q kn w sm h=> ?_⟩
 have et:=sm.gd.2.1
 refine ⟨by rw [←et];exact w.tb,fun f c1 H1 k1 T1 n1 f1 c1'=> ?_⟩
 rw [←et] at T1 hm
 obtain ⟨g1,w1⟩:=Od hm kn w k1 T1
 have nvf:¬W.gq f:=fun v=>by
  obtain ⟨o,e⟩:=w.dom v
  rw [e] at n1
  cases n1
 have bf:B f=none:=cA kn n1
 have g2:Gr W B H (upd B f (Ey f ⟨q,params,body,scope,cloFrom X.env.cells scope.names [],c1⟩)) H1:=by
  refine ⟨fun a o e=> ?_,bh bf,g1.hx,fun a o e _=> ?_⟩
  ·by_cases ha:a=f
   ·subst ha
    rw [upd_same] at e
    cases e
    exact ⟨nvf,Or.inl ⟨rfl,f1⟩⟩
   ·rw [upd_ne ha] at e
    exact g1.kn a o e
  ·rw [upd_ne (ne_of_none e n1)]
 exact h [] f c1 _ _ g2 (w1.U0 bf) .nil upd_same (Sq w1 c1') c1'
theorem lV (ha:SE G X Wx e ma) (hr:SAL G X Wx es mk ms) (hs:starEach (e::es) X.env=(false,eval e X.env)::starEach es X.env:=by rfl):SAL G X Wx (e::es) mk (ao ma ms):=by
 obtain ⟨ta,pa,ha⟩:=ha.ex
 obtain ⟨tr,pr,hr⟩:=hr.ex
 refine ⟨_,pa_cons pa pr hs,fun W H0 σ B H ls s Q k w sm h=> ?_⟩
 refine ha W H0 σ B H ls s _ k w sm ?_
 unfold ao at h
 cases e1:ma ls s with
 | stuck=>rw [aO e1] at h;exact h
 | exc C fs s'=>rw [aC e1] at h;exact h
 | ok d s1=>
  rw [aP e1] at h
  intro v B1 H1 g1 w1 r1
  refine hr W H0 σ B1 H1 ls s1 _ g1.kn w1 (sm.grow g1) ?_
  have h:=h.grow g1
  cases e2:ms ls s1 with
  | stuck=>rw [aO e2] at h;exact h
  | exc C fs s'=>rw [aC e2] at h;exact h
  | ok ds s2=>
   rw [aP e2] at h
   exact fun vs f c B2 H2 g2 w2 r2 b2 n2 c2=>h (v::vs) f c B2 H2 g2 w2 (.cons (r1.mono g2.bb) r2) b2 n2 c2
end
def Jg (n:Nat) (ds:List D):List Sl:=ds.map Sl.va ++ .cl::List.replicate (n-ds.length-1) .un
def jr (n np:Nat) (mb:(List D→M D)→MS) (call:List D→M D) (ds:List D):M D:=if ds.length=np then bnd (mb call (Jg n ds)) endF else stk
theorem RL {T:List NdefX.NTab}{w0:World}{f c:Addr}{q:Str}{W:Wd}{K:Frag}{H0 B H:Hp}{N:List Str}{vs:List V}{ds:List D}(r:DvL K B vs ds) (hl:vs.length<N.length) (gd:¬W.gq c∧H c=some (LamX.CodeO c q)∧Nt B c) (et:W.tb=T∧W.fr=K) :
  Sm (GL T w0 f B c q) W K H0 B H (L2.start N (vs++[.ref f])) (Jg N.length ds):=by
 have el:=r.len
 have at_:∀{i:Nat}{x:Sl},(Jg N.length ds)[i]?=some x→(∃d,ds[i]?=some d∧x = .va d)∨(i=ds.length∧x = .cl)∨(ds.length<i∧i<N.length∧x = .un):=fun {i x} e=>by
  unfold Jg at e
  by_cases hi:i<ds.length
  ·rw [List.getElem?_append_left (by simpa using hi),List.getElem?_map,List.getElem?_eq_getElem hi] at e
   cases e
   exact .inl ⟨_,List.getElem?_eq_getElem hi,rfl⟩
  ·rw [List.getElem?_append_right (by simp;omega)] at e
   simp only [List.length_map] at e
   cases hk:i-ds.length with
   | zero=>
    rw [hk] at e
    cases e
    exact .inr (.inl ⟨by omega,rfl⟩)
   | succ m=>
    rw [hk,List.getElem?_cons_succ,List.getElem?_replicate] at e
    split at e
    ·cases e
     exact .inr (.inr ⟨by omega,by omega,rfl⟩)
    ·cases e
 refine ⟨by simp [L2.start,Jg,el];omega,fun i x e=> ?_,fun i j x y p _ e _ o1 _ _=> ?_,⟨Sub.refl _,gd⟩,et⟩
 ·rcases at_ e with ⟨d,hd,rfl⟩ | ⟨rfl,rfl⟩ | ⟨h1,h2,rfl⟩
  ·obtain ⟨v,e1,q1⟩:=r.getD hd
   have hi:i<vs.length:=(List.getElem?_eq_some_iff.mp e1).1
   refine ⟨some v,?_,v,rfl,q1⟩
   unfold L2.start
   rw [List.getElem?_append_left (by simp;omega),List.getElem?_map,List.getElem?_append_left hi,e1]
   rfl
  ·refine ⟨some (.ref f),?_,rfl⟩
   unfold L2.start
   rw [←el,List.getElem?_append_left (by simp),List.getElem?_map,List.getElem?_append_right (Nat.le_refl _)]
   simp
  ·refine ⟨none,?_,trivial⟩
   unfold L2.start
   rw [List.getElem?_append_right (by simp;omega),List.getElem?_replicate,if_pos (by simp;omega)]
 ·rcases at_ e with ⟨d,hd,z⟩ | ⟨_,z⟩ | ⟨_,_,z⟩<;>(rw [z] at o1;cases o1)
section
variable {X:Cx}{Wx:WX}{e:Expr}{es:List Expr}{ms:bJ (List D)}{pos p:Pos}{x a q:Str}{g:Addr}{fdg:FuncData}{pg:Arguments}{bg:List Stmt}{sg:Scope}{Ng ps psg:List Str}{cap:List (Nat×Str)}{params:Arguments}{body:Expr}{scope:Scope}{k i:Nat}{mlam:bJ D}{mb:(List D→M D)→MS}{ks:List (Str×V)}
theorem Qp (hr:RoomG (k+2) X.A) (hg:Gl X x) (hm:X.mg x=some (.ref g)) (F:FunD X.K x x pg bg sg [] ks g fdg) (hb:Binds X.K fdg (psg++[a]) []) (S:FnScope Ng (psg++[a]) sg) (tk:Takes X Wx)
  (hs:SAL G X Wx (e::es) (fun c'=>⟨q,params,body,scope,cloFrom X.env.cells scope.names [],c'⟩) ms)
  (L:LamP ps X.env.scope scope) (hc:∀p∈cap,X.N[p.1]?=some p.2∧p.2∉ps)
  (hbind:∀(cl:List (Str×Addr)) (pm cv ctv:Value) (us:List Value),us.length=ps.length→bindArgs (kla_fn "<lambda>" q params body scope cl pm cv ctv) ⟨us,[]⟩=pure (ps.zip us))
  (hlam:∀(A:Around) (outer:List Env) (s:Shared) (H:Hp) (E:XK) (f c:Addr),RoomG k (A.deeper (zN X q scope s.heap.objs.size f c))→SE (G0 G.tb X.w) (FT X (ps++cap.map (·.2)) q scope f c A outer s H E) (EW E) body mlam)
  (hcal:∀(f c:Addr) (B0:Hp) (call:List D→M D) (cdv:Value) (A:Around) (outer:List Env) (s:Shared) (H:Hp) (E:XK),RoomG (k+1) (A.deeper (envOfC x sg s.heap.objs.size g cdv))→Act (GL G.tb X.w f B0 c q) (cxOf (L2.CX X.prog X.w) X.prog X.w X.K X.mg X.base Ng x sg g cdv A outer s H E) a psg.length call →
   SSs (GL G.tb X.w f B0 c q) (cxOf (L2.CX X.prog X.w) X.prog X.w X.K X.mg X.base Ng x sg g cdv A outer s H E) (EW E) bg (mb call))
  (hv:Vis sg a:=by first | exact Or.inl rfl | exact Or.inr (Or.inl rfl)) (hda:(a==("__debug__" : Str))=false:=by decide) (hca:(a==("__classdict__" : Str))=false:=by decide) (hdb:(x==("__debug__" : Str))=false:=by decide)
  (he:starEach (e::es) X.env=(false,eval e X.env)::starEach es X.env:=by rfl) (hpl:(backTo pos (starEach es X.env)).any (·.1)=false:=by rfl) :
  SE G X Wx (.Call (.Name x p) (e::es) [] pos) (fun ls=>bnd (ms ls) (jr Ng.length psg.length mb (lamD ps.length (gJ cap ls) mlam))):=by
 obtain ⟨ta,pa,ha⟩:=hs.ex
 have hN:Ng[psg.length]?=some a:=by
  have h1:=S.pre
  have h2:(Ng.take (psg++[a]).length)[psg.length]?=some a:=by
   rw [h1]
   simp
  rw [List.getElem?_take_of_lt (by simp)] at h2
  exact h2
 have hlt:psg.length<Ng.length:=(List.getElem?_eq_some_iff.mp hN).1
 refine ⟨fun σ H Q=>ta σ H fun vs H1=>∃(vs0:List V) (f c:Addr) (W:Wd) (B:Hp) (sd:DS) (ds:List D) (H0:Hp) (ls:List Sl),vs=vs0++[.ref f]∧Kn W B H1∧W.ok sd B H1∧Sm G W X.K H0 B H1 σ ls∧DvL X.K B vs0 ds∧B f=some (Ey f ⟨q,params,body,scope,cloFrom X.env.cells scope.names [],c⟩) ∧
   ¬W.gq c∧H1 c=some (LamX.CodeO c q)∧Ans W X.K B H1 (jr Ng.length psg.length mb (lamD ps.length (gJ cap ls) mlam) ds sd) Q (fun c d H'=>Wx c d σ H'),⟨fun pins s σ H Q I h=> ?_⟩,fun W H0 σ B H ls s Q kn w sm h=> ?_⟩
 ·refine wpAny_Call_Name_kw (ld_glob I hg hm ?_ hdb)
  refine callWith_K (h₀:=X.base) I.ok.mod.kin F.kp (thn (pa.run pos pins s σ H _ I h) fun us s1 ⟨vs,H1,I1,r1,q1⟩=>⟨I1.kIn,?_⟩) he hpl
  obtain ⟨vs0,f,c,W,B,sd,ds,H0,ls,ev,kn,wk,sm,rd,bf,nc,ec,an⟩:=q1
  subst ev
  unfold jr at an
  split at an
  case isFalse=>exact an.elim
  rename_i hld
  have hl:(vs0++[V.ref f]).length=(psg++[a]).length:=by simp [rd.len,hld]
  have lu:us.length=(psg++[a]).length:=(Paired.length r1).symm.trans hl
  obtain ⟨oc,od,dV,kV,doc,pm,an',cdv,ct,osl,efd,lk,hcd,_,_⟩:=F.ex
  subst efd
  have bd:=hb s1 us I1.kIn (by simpa using lu)
  rw [List.append_nil] at bd
  have rc:codeAny (model X.prog X.w) X.A (.call (.ref g) ⟨us,[]⟩) (CR (L2.CX X.prog X.w) X.stack X.prog X.w H1 s1 Q (fun c d H'=>Wx c d σ H')) s1:=by
   refine LamX.run_ofS (k:=k+1) lk hcd S hr.room I1.env0 bd r1 hl fun _=> ?_
   have hr1:RoomG (k+1) (X.A.deeper (envOfC x sg s1.heap.objs.size g cdv)):=hr.deeper _
   have act:=abB (T:=G.tb) (Ng:=Ng) (Eg:=fun c d H'=>Wx c d σ H') (cdg:=cdv) (g:=g) (i:=psg.length) (k:=k) I1 L hc sm hbind hlam bf hr1 hN hv hda hca
   obtain ⟨t,pt,ht⟩:=(hcal f c B _ cdv X.A X.stack s1 H1 (fun c d H'=>Wx c d σ H') hr1 act).ex
   refine ⟨t,pt,ht W B H1 _ B H1 (Jg Ng.length ds) sd _ (Gr.refl kn) wk (RL rd (by rw [rd.len,hld];exact hlt) ⟨nc,ec,wk.ntc ec⟩ sm.gd.2) ?_⟩
   cases e1:mb (lamD ps.length (gJ cap ls) mlam) (Jg Ng.length ds) sd with
   | stuck=>rw [aO e1] at an;exact an
   | exc C fs s'=>
    rw [aC e1] at an
    exact fun od σ B' H' g w x=>an od B' H' g w x
   | ok fl s'=>
    rw [aP e1] at an
    cases fl with
    | nx l=>exact fun σ B' H' g w sm=>an .non B' H' g w .non
    | rt d=>exact fun v B' H' g w r=>an v B' H' g w r
    | rl d=>exact (show False from an).elim
    | bk l=>exact (show False from an).elim
    | ct l=>exact (show False from an).elim
  refine wpAny_call (codeAny_mono rc fun z s' hq=> ?_)
  cases z with
  | error e=>exact passAt tk σ pins H1 s1 e s' I1 hq
  | ok fl=>
   cases fl with
   | ret u=>exact I1.after hq
   | next=>exact False.elim hq
   | brk=>exact False.elim hq
   | cont=>exact False.elim hq
 ·refine ha W H0 σ B H ls s _ kn w sm ?_
  cases e1:ms ls s with
  | stuck=>rw [aO e1] at h;exact h
  | exc C fs s'=>rw [aC e1] at h;exact h
  | ok ds s1=>
   rw [aP e1] at h
   exact fun vs f c B1 H1 g1 w1 r1 b1 n1 c1=>⟨vs,f,c,W,B1,s1,ds,H0,ls,rfl,g1.kn,w1,sm.grow g1,r1,b1,n1,c1,h.grow g1⟩
end
variable {G:Gd}
theorem Tn {v:Value}{o:Obj}{J:Heap→Prop}(B:Begins v o J) :
  Meets (Builtin.«enumerate.__new__» ⟨[.type "enumerate",v],[]⟩) (fun _ R s=>J s.heap ∧
   R (.ok (.ret (.ref (s.heap.push o).objs.size))) { s with heap:=(s.heap.push o).push { cls:= .type "enumerate",data:= .fields #[.none,.bool false,.ref s.heap.objs.size,rawInt 0,.none,.none]}}):=
 .of_wp fun pr wo ar R s h=>by
  obtain ⟨hp,g,d,tk,os⟩:=s
  obtain ⟨h1,h⟩:=h
  have hsub:=sub_enumerate
  have go:∀{A':Around}{E:Value→Shared→Prop}{Q:Value→Shared→Prop},Q (.ref hp.objs.size) ⟨hp.push o,g,d,tk,os⟩→wpAny (model pr wo) A' (pyIter v) Q E ⟨hp,g,d,tk,os⟩:=
   fun z=>B.iter pr wo _ _ ⟨hp,g,d,tk,os⟩ _ h1 z
  wp_walk using go
  refine wpAny_stack_any fun st=>wpAny_pure ?_
  split
  ·rename_i c _ _ _ _ _
   cases (c==Value.type "enumerate")
   ·wp_walk using go
    exact ⟨_,rfl,h⟩
   ·wp_walk using go
    exact ⟨_,rfl,h⟩
  ·wp_walk using go
   exact ⟨_,rfl,h⟩
section
variable {pr:Program}{wo:World}{A:Around}{E:Value→Shared→Prop}{s:Shared}
theorem PN {v:Value}{o:Obj}{J:Heap→Prop}{Q:Value→Shared→Prop}(B:Begins v o J) (h1:J s.heap)
  (h:∀z:Heap,IsEnum z (s.heap.objs.size+1) s.heap.objs.size 0 .none→z.get? s.heap.objs.size=some o→(∀b u,s.heap.get? b=some u→z.get? b=some u)→Q (.ref (s.heap.objs.size+1)) { s with heap:=z}) :
  wpAny (model pr wo) A (call (.type "enumerate") [v]) Q E s:=by
 refine callType_new F.called_enumerate (by decide) (F.typeCall_enumerate_1 _) (F.newCall_enumerate_1 _) (fun obj=>F.args_object_init_2 obj _) F.entry_enumerate_new (Tn B) ⟨h1,?_⟩
 have sz:(s.heap.push o).objs.size=s.heap.objs.size+1:=Heap.size_push ..
 show _∧_
 rw [sz]
 have en:IsEnum ((s.heap.push o).push ({ cls:= .type "enumerate",data:= .fields #[.none,.bool false,.ref s.heap.objs.size,rawInt 0,.none,.none]}:Obj)) (s.heap.objs.size+1) s.heap.objs.size 0 .none:=by
  have z:=Heap.get?_push_size (s.heap.push o) (o:=({ cls:= .type "enumerate",data:= .fields #[.none,.bool false,.ref s.heap.objs.size,rawInt 0,.none,.none]}:Obj)) rfl
  rw [sz] at z
  exact z
 exact ⟨⟨_,en,rfl⟩,h _ en (Heap.get?_push_of_some _ (Heap.get?_push_size _ B.free)) fun b u x=>Heap.get?_push_of_some _ (Heap.get?_push_of_some _ x)⟩
end
def ItT (K:Frag) (a:Addr):It where
 go:=fun i H=>∃(xs:List V) (x:V),SqT K H a xs∧xs[i]?=some x
 yld:=fun i H v H'=>∃T x,v = .ref T∧H T=none∧H'=upd H T (.tup [.int (i:Nat),x])∧∀xs,SqT K H a xs→xs[i]?=some x
 stop:=fun i H=>∃xs:List V,SqT K H a xs∧xs.length≤i
theorem Nk {h:Heap}{a:Addr}{its:Array Value}(p:IsTup h a its):h.IsTuple a its:=by
 obtain ⟨o,ho,hc,n,hd⟩:=p
 exact ⟨o,ho,hc,n,hd⟩
theorem abo {P:Program}{w:World}{K:Frag}{elts:List Expr}{kk:Nat}{tpos:Pos}(a e it:Addr) :
  Turn P w K (.Tuple elts kk tpos) (ItT K a) [e,it] e (fun i h=>(∃old,IsEnum h e it ((i:Nat):Int) old)∧h.IsTupleIter it a i∧e≠it) where
 mem:=by simp
 obj:=fun i h st b hb=>by
  obtain ⟨⟨old,he⟩,⟨o,ho,hc,hd⟩,_⟩:=st
  rcases (show b=e∨b=it by simpa using hb) with z | z
  ·rw [z]
   exact ⟨_,he,fun v q=>nomatch q⟩
  ·rw [z]
   exact ⟨o,ho,fun v q=>by rw [hd] at q;cases q⟩
 keep:=fun i h h' st k=>by
  obtain ⟨⟨old,he⟩,hi,hne⟩:=st
  exact ⟨⟨old,k e (by simp) _ he⟩,hi.at fun o q=>k it (by simp) o q,hne⟩
 item:=by
  intro X hP hw hK hc i pins s σ H E I hf st hg
  subst hP hw hK
  obtain ⟨⟨old,he⟩,hit,hne⟩:=st
  obtain ⟨xs,x,hq,hx⟩:=hg
  obtain ⟨its,rv,p,hz⟩:=I.tuple hq
  obtain ⟨u,hu,ru⟩:=Ck rv hx
  have li:i<its.length:=(List.getElem?_eq_some_iff.mp hu).1
  have el:e<s.heap.objs.size:=Heap.lt_size he
  have il:it<s.heap.objs.size:=by
   obtain ⟨_,z,_⟩:=hit
   exact Heap.lt_size z
  have ai:a≠it:=fun z=>by
   obtain ⟨o,ho,_,n,hd⟩:=Nk p
   obtain ⟨o',ho',_,hd'⟩:=hit
   rw [z,ho'] at ho
   cases ho
   rw [hd'] at hd
   cases hd
  have ae:e≠a:=fun z=>by
   obtain ⟨o,ho,hc,_⟩:=Nk p
   rw [←z,he] at ho
   cases ho
   have hc:Value.type "enumerate" = Value.type "tuple" :=hc
   simp at hc
  have Dr:=Draws.tuple (prog:=X.prog) (w:=X.w) (A:=X.A.in1) (I.ok.hd hc) it a ai its.toArray
  refine wpAny_pyNext_enum_itemD Dr he ⟨hit,Nk p⟩ (by simpa using li) hne (by simp [hne,ae]) fun x' h' tk hx' ho st' hT hsz hk=> ?_
  have ex:x'=u:=by
   have z:its[i]?=some x':=by simpa using hx'
   rw [hu] at z
   exact (Option.some.inj z).symm
  subst ex
  refine ⟨_,rfl,wpAny_letOwnedTupleGo_enum (s:={ s with heap:=h',toks:=tk+1}) ho fun h2 he' sb=> ?_⟩
  have hT2:h2.get? s.heap.objs.size=some ({ cls:= .type "tuple",data:= .seq #[.int i tk,x']}:Obj):=(sb.2 _ (Nat.ne_of_gt el)).trans hT
  have nw:ObjOk X.prog X.w (upd H s.heap.objs.size (.tup [.int (i:Nat),x])) h2 s.heap.objs.size (.tup [.int (i:Nat),x]):=
   ⟨by show 2≤sizeLine;decide,[.int i tk,x'],.cons ⟨_,rfl⟩ (.cons ru .nil),⟨_,hT2,rfl,_,rfl⟩⟩
  have I1:Inv X pins σ (upd H s.heap.objs.size (.tup [.int (i:Nat),x])) { s with heap:=h2,toks:=tk+1}:=
   I.turnedNew (ch:=[e,it]) (fun b ob hb q=>(sb.2 b (fun z=>hb (by simp [z]))).trans (hk b ob (fun z=>hb (by simp [z])) (fun z=>hb (by simp [z])) q)) hf (Nat.le_refl _) nw
  refine ⟨.ref s.heap.objs.size,_,I1,rfl,⟨_,x,rfl,I.hok.fresh (Nat.le_refl _),rfl,fun ys hy=>by rw [I.tuple_inj hy hq];exact hx⟩,⟨⟨x',?_⟩,st'.1.at fun o q=>(sb.2 it (Ne.symm hne)).trans q,hne⟩,fun b hb=> ?_⟩
  ·rw [show ((i+1:Nat):Int)=(i:Int)+1 from by omega]
   exact he'
  ·have hb':b<s.heap.objs.size:=by
    rcases (show b=e∨b=it by simpa using hb) with z | z
    ·rw [z];exact el
    ·rw [z];exact il
   rw [upd_ne (Nat.ne_of_lt hb')]
   exact (hf b hb).1
 done:=by
  intro X hP hw hK hc i pins s σ H E I hf st hg
  subst hP hw hK
  obtain ⟨⟨old,he⟩,hit,hne⟩:=st
  obtain ⟨xs,hq,hx⟩:=hg
  obtain ⟨its,rv,p,hz⟩:=I.tuple hq
  obtain ⟨f0,f1,f2,f3,f4,f5⟩:=hf it (by simp)
  have hl:xs.length=its.length:=Paired.length rv
  have Dr:Draws X.prog X.w X.A.in1 it [it,a] i (fun _ _=>True) (fun j h=>j=i∧h.IsTupleIter it a i∧h.IsTuple a its.toArray):=
   {live:=fun _ _ st=>let ⟨o,ho,_⟩:=st.2.1;⟨o,ho⟩
    frame:=fun _ _ _ st hk=>⟨st.1,st.2.1.at fun o e=>hk it (by simp) o e,st.2.2.at fun o e=>hk a (by simp) o e⟩
    item:=fun j s Q E hj st=>absurd st.1 (Nat.ne_of_lt hj)
    done:=fun s Q E st hE=>wpAny_nextOf_tuple_end (I.ok.hd hc) st.2.1 st.2.2 (by simp;omega) hE}
  exact wpAny_pyNext_enum_endD Dr he ⟨rfl,hit,Nk p⟩ fun h' eb=>⟨rfl,I.turned (t':=s.toks) (fun b o hb q=>eb b o hb q) f0 f1 f3 f4 f5⟩
 self:=fun A i s Q E st h=>by
  obtain ⟨⟨_,he⟩,_⟩:=st
  exact wpAny_pyIter_enum he h
section
variable {X:Cx}{Wx:WX}{e tg:Expr}{me:bJ D}{pos p:Pos}
theorem aaN {ta:TA}{tpos:Pos}{elts:List Expr}{kk:Nat}(hg:Gl X "enumerate") (hm:X.mg "enumerate" = none) (ha:PA X [e] ta) (hs:starEach [e] X.env=[(false,eval e X.env)]:=by rfl) :
  PI X (.Tuple elts kk tpos) (.Call (.Name "enumerate" p) [e] [] pos) (fun σ H R=>ta σ H fun vs H1=>∃a xs,vs=[.ref a]∧SqT X.K H1 a xs∧R (ItT X.K a) H1):=by
 refine ⟨fun pins s σ H R I h=> ?_⟩
 refine Call_ (ld_blt I hg hm boot_enumerate (PyProof.Rows.callWith_type1 (thn (ha.run pos pins s σ H _ I h) fun us s1 ⟨vs,H1,I1,r1,q1⟩=> ?_) hs rfl))
 obtain ⟨a,xs,ex,hq,q⟩:=q1
 subst ex
 obtain ⟨u,rfl,r⟩:=vals1 r1
 cases r
 obtain ⟨its,rv,p',hz⟩:=I1.tuple hq
 refine PN (begins_tuple a its.toArray) (Nk p') fun z en hit hk=>wpAny_pyIter_enum en ?_
 have I2:Inv X pins σ H1 { s1 with heap:=z}:=I1.kept (t':=s1.toks) hk
 refine ⟨s1.heap.objs.size+1,[s1.heap.objs.size+1,s1.heap.objs.size],_,_,H1,rfl,I2,abo a (s1.heap.objs.size+1) s1.heap.objs.size,⟨⟨.none,en⟩,⟨_,hit,rfl,rfl⟩,Nat.succ_ne_self _⟩,fun b hb=> ?_,q⟩
 have hle:s1.heap.objs.size≤b:=by
  rcases (show b=s1.heap.objs.size+1∨b=s1.heap.objs.size by simpa using hb) with z | z
  ·rw [z];exact Nat.le_add_right _ _
  ·rw [z];exact Nat.le_refl _
 exact I1.fpOk hle (I1.hok.fresh hle)
theorem Va {K:Frag}{a:Addr}{xs:List V}:Walk (ItT K a) xs.length (fun H=>SqT K H a xs) (YPair (fun i=>some (.int (i:Nat))) (fun i=>xs[i]?)):=by
 refine ⟨fun i _ hi q=>⟨xs,xs[i],q,by simp [hi]⟩,fun _ q=>⟨xs,q,Nat.le_refl _⟩,fun i H v H' _ q y=> ?_⟩
 obtain ⟨T,x,h1,h2,h3,h4⟩:=y
 exact ⟨T,.int (i:Nat),x,h1,h2,h3,rfl,h4 xs q⟩
theorem Xp {W:Wd}{K:Frag}{B H:Hp}{a:Addr}{o:Obj}{vs:List V}{ds:List D}{strict:Bool}(hp:B a=some (.frz o (.tup vs))) (r:DvL K B vs ds):oV strict W K B H (ItT K a) (jB 0 ds):=by
 refine ⟨fun H=>SqT K H a vs,_,by rw [yG,←r.len];exact Va,fun B' H' hs k hx _=>k.tp (hs _ _ hp),fun i B' H' x H2 s hs k w hi y=> ?_⟩
 obtain ⟨T,x,y,rfl,hn,rfl,ex,ey⟩:=y
 cases ex
 obtain ⟨d,e,q⟩:=r.get ey
 refine ⟨_,.tup [.int ((i:Nat):Int),d],Gr.new k w hn,w.nw k hn,?_,?_⟩
 ·have:=yK 0 ds i d e
  rw [Nat.zero_add] at this
  exact this
 ·have hb:=cA k hn
  exact .tup upd_same (.cons (.int _) (.cons ((q.mono hs).mono (bh hb)) .nil))
theorem Xi {W:Wd}{K:Frag}{B H:Hp}{a:Addr}{vs:List V}{ds:List D}{strict:Bool}(hp:B a=some (.tup vs)) (r:DvL K B vs ds):oV strict W K B H (ItT K a) (jB 0 ds):=by
 refine ⟨fun H=>SqT K H a vs,_,by rw [yG,←r.len];exact Va,fun B' H' hs k hx _=>k.t (hs _ _ hp),fun i B' H' x H2 s hs k w hi y=> ?_⟩
 obtain ⟨T,x,y,rfl,hn,rfl,ex,ey⟩:=y
 cases ex
 obtain ⟨d,e,q⟩:=r.get ey
 refine ⟨_,.tup [.int ((i:Nat):Int),d],Gr.new k w hn,w.nw k hn,?_,?_⟩
 ·have:=yK 0 ds i d e
  rw [Nat.zero_add] at this
  exact this
 ·have hb:=cA k hn
  exact .tup upd_same (.cons (.int _) (.cons ((q.mono hs).mono (bh hb)) .nil))
def Z5 (d:D):M (List D):=match d with
 | .tup xs=>ret xs
 | .qb xs=>ret xs
 | d=>Em d
def wH (me:bJ D):bJ (List D):=fun ls=>bnd (me ls) fun d=>bnd (Z5 d) fun xs=>ret (jB 0 xs)
theorem Ib {elts:List Expr}{kk:Nat}{tpos:Pos}{strict:Bool}(hg:Gl X "enumerate") (hm:X.mg "enumerate" = none) (he:SE G X Wx e me) (hs:starEach [e] X.env=[(false,eval e X.env)]:=by rfl):SI G X Wx strict (.Tuple elts kk tpos) (.Call (.Name "enumerate" p) [e] [] pos) (wH me):=by
 obtain ⟨t,pt,ht⟩:=he.ex
 refine ⟨_,PI.or (pi_enum hg hm (pa_cons pt pa_nil hs) hs) (aaN hg hm (pa_cons pt pa_nil hs) hs),fun W H0 σ B H ls s R k w sm h=> ?_⟩
 unfold wH at h
 cases e1:me ls s with
 | stuck=>rw [aO e1] at h;exact (show False from h).elim
 | exc C fs s'=>
  rw [aC e1] at h
  exact Or.inl (ht W H0 σ B H ls s _ k w sm (by rw [e1];exact h))
 | ok d s1=>
  rw [aP e1] at h
  unfold Z5 at h
  split at h
  ·refine Or.inr (ht W H0 σ B H ls s _ k w sm ?_)
   rw [e1]
   intro v B1 H1 g1 w1 r1
   cases r1 with
   | tup hb r=>exact ⟨_,_,rfl,g1.kn.t hb,h _ B1 H1 g1 w1 (Xi hb r)⟩
  ·refine Or.inr (ht W H0 σ B H ls s _ k w sm ?_)
   rw [e1]
   intro v B1 H1 g1 w1 r1
   cases r1 with
   | qb hb _ r=>exact ⟨_,_,rfl,g1.kn.tp hb,h _ B1 H1 g1 w1 (Xp hb r)⟩
  ·refine Or.inl (ht W H0 σ B H ls s _ k w sm ?_)
   rw [e1]
   intro v B1 H1 g1 w1 r1
   rcases GX d s1 with ⟨xs,e2⟩ | e2
   ·rw [aP e2] at h
    obtain ⟨_,q,vs,rfl,hq,rr⟩:=r1.Em e2
    exact ⟨q,_,rfl,g1.kn.l hq,h _ B1 H1 g1 w1 (JV hq rr)⟩
   ·rw [aO e2] at h
    exact (show False from h).elim
def signs (z:Str):List D:=z.cps.toList.map fun c=> .str ⟨#[c]⟩
theorem WT {W:Wd}{K:Frag}{B H:Hp}{z:Str}{strict:Bool}:oV strict W K B H (Its z) (signs z):=by
 have hl:(signs z).length=z.cps.size:=by simp [signs]
 refine ⟨fun _=>True,_,by rw [hl];exact walk_str,fun _ _ _ _ _ _=>trivial,fun i B' H' x H2 s hs k w hi y=> ?_⟩
 obtain ⟨rfl,c,hc,rfl⟩:=y
 refine ⟨B',.str ⟨#[c]⟩,Gr.refl k,w,?_,.str _⟩
 unfold signs
 rw [List.getElem?_map,Array.getElem?_toList,hc]
 rfl
def Xy (d:D):M (List D):=match d with
 | .str z=>ret (signs z)
 | d=>tZ d
theorem Sd (he:SO G X Wx e me):SI G X Wx true tg e (fun ls=>bnd (me ls) Xy):=by
 obtain ⟨t,pt,ht⟩:=he.ex
 refine ⟨_,PI.or (pi_str pt) (PI.or (pi_list pt) (pi_tup pt)),fun W H0 σ B H ls s R k w sm h=> ?_⟩
 cases e1:me ls s with
 | stuck=>rw [aO e1] at h;exact (show False from h).elim
 | exc C fs s'=>
  rw [aC e1] at h
  exact Or.inl (ht W H0 σ B H ls s _ k w sm (by rw [e1];exact h))
 | ok d s1=>
  rw [aP e1] at h
  unfold Xy at h
  split at h
  ·refine Or.inl (ht W H0 σ B H ls s _ k w sm ?_)
   rw [e1]
   intro v B1 H1 g1 w1 r1
   rw [r1.str]
   exact ⟨_,rfl,h _ B1 H1 g1 w1 WT⟩
  ·unfold tZ at h
   split at h
   ·refine Or.inr (Or.inl (ht W H0 σ B H ls s _ k w sm ?_))
    rw [e1]
    intro v B1 H1 g1 w1 r1
    rcases r1 with r1 | ⟨q,u,rfl,nv,hb,hp,r⟩
    ·cases r1 with
     | lst hb r=>exact ⟨_,rfl,⟨_,SqL.of (g1.kn.get hb)⟩,h _ B1 H1 g1 w1 (tD (g1.kn _ _ hb).1 (.val hb rfl) (g1.kn.get hb) (fun _=>hb) r)⟩
    ·cases r with
     | lst r=>exact ⟨_,rfl,⟨_,SqL.of hp⟩,h _ B1 H1 g1 w1 (tD nv (.none hb) hp (fun z=>nomatch z) r)⟩
   ·refine Or.inr (Or.inr (ht W H0 σ B H ls s _ k w sm ?_))
    rw [e1]
    intro v B1 H1 g1 w1 r1
    obtain ⟨q,vs,rfl,hb,r⟩:=r1.tup
    exact ⟨_,rfl,⟨_,g1.kn.t hb⟩,h _ B1 H1 g1 w1 (Hq hb r)⟩
   ·refine Or.inr (Or.inr (ht W H0 σ B H ls s _ k w sm ?_))
    rw [e1]
    intro v B1 H1 g1 w1 r1
    obtain ⟨q,o,vs,rfl,hb,_,r⟩:=r1.qb
    exact ⟨_,rfl,⟨_,g1.kn.tp hb⟩,h _ B1 H1 g1 w1 (Hh hb r)⟩
   ·exact (show False from h).elim
def YJ (d:D):M D:=match d with
 | .int i=>ret (.int (-i))
 | _=>stk
theorem abt (he:SE G X Wx e me):SE G X Wx (.UnaryOp .USub e pos) (fun ls=>bnd (me ls) YJ):=by
 obtain ⟨t,pt,ht⟩:=he.ex
 refine ⟨_,pe_un un_neg pt,fun W H0 σ B H ls s Q k w sm h=> ?_⟩
 refine ht W H0 σ B H ls s _ k w sm (h.bind fun dx s1 x B1 H1 g1 w1 rx h1=> ?_)
 unfold YJ at h1
 split at h1
 ·cases rx
  exact ⟨_,rfl,h1.bU g1.kn w1 (.int _)⟩
 ·exact (show False from h1).elim
end
variable {G:Gd}{T:List NdefX.NTab}
structure DefL (K:Frag) (mg:Str→Option Value) (x:Str) (st:Stmt):Prop where
 ex:∃(fd:FuncData),FunD K x x (defArgs st) (defBody st) (defScope st) [] [] (He.fAd K (x,none)) fd
 gm:mg x=some (.ref (He.fAd K (x,none)))
section
variable {P:Program}{w:World}{K:Frag}{mg:Str→Option Value}{base:Heap}{x:Str}{st:Stmt}{k:Nat}{N ps:List Str}{mb:MS}
theorem DefL.f (F:DefL K mg x st):DefF K mg x st:=by
 obtain ⟨fd,D⟩:=F.ex
 exact ⟨_,fd,D,F.gm⟩
theorem DefL.cal (F:DefL K mg x st) (S:FnScope N ps (defScope st)) (hl:ps.length≤N.length)
  (hb:∀(kV doc pm:Value) (an:Option Addr) (cdv ct:Value) (us:List Value),us.length=ps.length→bindArgs (fnOf x x (defArgs st) (defBody st) (defScope st) .none kV doc pm an cdv ct) ⟨us,[]⟩=pure (ps.zip us))
  (body:∀(f:Addr) (cdv:Value) (A:Around) (outer:List Env) (s:Shared) (H:Hp) (E:XK),cdv = .ref (He.cT K (x,none)).1→RoomG k (A.deeper (envOfC x (defScope st) s.heap.objs.size f cdv))→SSs (G0 T w) (cxOf (L2.CX P w) P w K mg base N x (defScope st) f cdv A outer s H E) (EW E) (defBody st) mb) :
  Cal P w K mg base T x (k+1) ps.length (dG N.length mb):=by
 obtain ⟨fd,D⟩:=F.ex
 refine ⟨He.fAd K (x,none),fd,ps,?_,F.gm,D.kp,D.bindsN hb⟩
 obtain ⟨oc,od,dV,kV,doc,pm,an,cdv0,ct,osl,rfl,lk,hcd,dd,dk⟩:=D.ex
 obtain ⟨c,ec⟩:=He.codeIn_ref hcd
 have e2:He.codeOf K (x,none)=c:=He.codeOf_eq lk ec
 have hC:cdv0 = .ref (He.cT K (x,none)).1:=by
  rw [ec]
  exact congrArg Value.ref e2.symm
 refine ⟨fun vs H Q E h=>h.1,fun A outer s H args us vs Q E rg e0 bd rv h=> ?_⟩
 have hlen:=h.1
 obtain ⟨_,W,B,sd,ds,et,kn,wk,r,a⟩:=h
 obtain ⟨t,pt,ht⟩:=(body (He.fAd K (x,none)) cdv0 A outer s H E hC (rg.deeper _)).ex
 exact LamX.run_ofS lk hcd S rg.room e0 bd rv hlen fun _=>⟨t,pt,PV.Ry (X:=cxOf (L2.CX P w) P w K mg base N x (defScope st) (He.fAd K (x,none)) cdv0 A outer s H E) (by rw [hlen];exact hl) kn wk r ⟨trivial,et⟩ a ht⟩
end
structure CalL (P:Program) (w:World) (K:Frag) (mg:Str→Option Value) (base:Heap) (T:List NdefX.NTab) (x:Str) (k:Nat) (Ng psg:List Str) (a:Str) (sg:Scope) (mb:(List D→M D)→MS):Prop where
 ex:∃(g:Addr) (fdg:FuncData) (pg:Arguments) (bg:List Stmt),FunD K x x pg bg sg [] [] g fdg∧mg x=some (.ref g)∧Binds K fdg (psg++[a]) []∧FnScope Ng (psg++[a]) sg ∧
  ∀(q:Str) (f c:Addr) (B0:Hp) (call:List D→M D) (cdv:Value) (A:Around) (outer:List Env) (s:Shared) (H:Hp) (E:XK),RoomG k (A.deeper (envOfC x sg s.heap.objs.size g cdv))→Act (GL T w f B0 c q) (cxOf (L2.CX P w) P w K mg base Ng x sg g cdv A outer s H E) a psg.length call →
   SSs (GL T w f B0 c q) (cxOf (L2.CX P w) P w K mg base Ng x sg g cdv A outer s H E) (EW E) bg (mb call)
section
variable {P:Program}{w:World}{K:Frag}{mg:Str→Option Value}{base:Heap}{x a:Str}{st:Stmt}{k:Nat}{N psg:List Str}{mb:(List D→M D)→MS}
theorem DefF.adf (F:DefF K mg x st) (S:FnScope N (psg++[a]) (defScope st))
  (hb:∀(kV doc pm:Value) (an:Option Addr) (cdv ct:Value) (us:List Value),us.length=(psg++[a]).length→bindArgs (fnOf x x (defArgs st) (defBody st) (defScope st) .none kV doc pm an cdv ct) ⟨us,[]⟩=pure ((psg++[a]).zip us))
  (body:∀(g:Addr) (q:Str) (f c:Addr) (B0:Hp) (call:List D→M D) (cdv:Value) (A:Around) (outer:List Env) (s:Shared) (H:Hp) (E:XK),RoomG k (A.deeper (envOfC x (defScope st) s.heap.objs.size g cdv))→Act (GL T w f B0 c q) (cxOf (L2.CX P w) P w K mg base N x (defScope st) g cdv A outer s H E) a psg.length call →
   SSs (GL T w f B0 c q) (cxOf (L2.CX P w) P w K mg base N x (defScope st) g cdv A outer s H E) (EW E) (defBody st) (mb call)):CalL P w K mg base T x k N psg a (defScope st) mb:=by
 obtain ⟨f,fd,D,g⟩:=F.ex
 exact ⟨f,fd,_,_,D,g,D.bindsN hb,S,body f⟩
end
section
variable {X:Cx}{Wx:WX}{e:Expr}{es:List Expr}{ms:bJ (List D)}{p1 p2:Pos}{a:Str}{i:Nat}{call:List D→M D}
theorem Act.z1 (A:Act G X a i call) (tk:Takes X Wx) (ha:SA G X Wx (e::es) ms) (h1:starEach (e::es) X.env=(false,eval e X.env)::starEach es X.env:=by rfl) (h2:(backTo p2 (starEach es X.env)).any (·.1)=false:=by rfl):SE G X Wx (.Call (.Name a p1) (e::es) [] p2) (Jb i call ms):=
 A.c1 (pn:=X.pn) (xe:=X.xe) tk ha h1 h2
end
def aa9 (N ps:List Str) (cap:List (Nat×Str)):Bool:=cap.all fun p=>decide (N[p.1]?=some p.2) && !decide (p.2∈ps)
theorem SQ {N ps:List Str}{cap:List (Nat×Str)}(h:aa9 N ps cap=true):∀p∈cap,N[p.1]?=some p.2∧p.2∉ps:=fun p hp=>by
 have z:=List.all_eq_true.mp h p hp
 simp only [Bool.and_eq_true,decide_eq_true_eq,Bool.not_eq_true',decide_eq_false_iff_not] at z
 exact z
section
variable {X:Cx}{Wx:WX}{e:Expr}{es:List Expr}{ms:bJ (List D)}{pos p:Pos}{x a q:Str}{sg:Scope}{Ng ps psg:List Str}{cap:List (Nat×Str)}{params:Arguments}{body:Expr}{scope:Scope}{k kc:Nat}{mlam:bJ D}{mb:(List D→M D)→MS}
theorem uX (C:CalL X.prog X.w X.K X.mg X.base G.tb x kc Ng psg a sg mb) (hr:RoomG (k+2) X.A) (hk:kc≤k+1) (hg:Gl X x) (tk:Takes X Wx) (L:LamP ps X.env.scope scope) (hc:aa9 X.N ps cap=true)
  (hs:SAL G X Wx (e::es) (fun c'=>⟨q,params,body,scope,cloFrom X.env.cells scope.names [],c'⟩) ms)
  (hbind:∀(cl:List (Str×Addr)) (pm cv ctv:Value) (us:List Value),us.length=ps.length→bindArgs (kla_fn "<lambda>" q params body scope cl pm cv ctv) ⟨us,[]⟩=pure (ps.zip us))
  (hlam:∀(A:Around) (outer:List Env) (s:Shared) (H:Hp) (E:XK) (f c:Addr),RoomG k (A.deeper (zN X q scope s.heap.objs.size f c))→SE (G0 G.tb X.w) (FT X (ps++cap.map (·.2)) q scope f c A outer s H E) (EW E) body mlam)
  (hv:Vis sg a:=by first | exact Or.inl rfl | exact Or.inr (Or.inl rfl)) (hda:(a==("__debug__" : Str))=false:=by decide) (hca:(a==("__classdict__" : Str))=false:=by decide) (hdb:(x==("__debug__" : Str))=false:=by decide)
  (he:starEach (e::es) X.env=(false,eval e X.env)::starEach es X.env:=by rfl) (hpl:(backTo pos (starEach es X.env)).any (·.1)=false:=by rfl) :
  SE G X Wx (.Call (.Name x p) (e::es) [] pos) (fun ls=>bnd (ms ls) (jr Ng.length psg.length mb (lamD ps.length (gJ cap ls) mlam))):=by
 obtain ⟨g,fdg,pg,bg,F,hm,hb,S,body⟩:=C.ex
 exact Qp hr hg hm F hb S tk hs L (SQ hc) hbind hlam (fun f c B0 call cdv A outer s H E h=>body q f c B0 call cdv A outer s H E (h.mono hk)) hv hda hca hdb he hpl
end
end PV
namespace PV
open PySem PySem.W PySem.Calls PyProof.Rows L2 PySem.Spec
variable {G:Gd}
abbrev abO (qual:Str) (params:Arguments) (body:Expr) (scope:Scope) (cl:List (Str×Addr)) (dv pm cdv ct:Value):FuncData:=
 {kla_fn "<lambda>" qual params body scope cl pm cdv ct with defaults:=dv}
abbrev DR (qual:Str) (params:Arguments) (body:Expr) (scope:Scope) (cl:List (Str×Addr)) (dv pm cdv ct:Value):Obj:=
 {cls:= .type "function",data:= .func (abO qual params body scope cl dv pm cdv ct)}
structure LFd where
 base:LF
 t:Addr
def uE (f:Addr) (F:LFd):HO:= .ext fun h=>∃(pm ctv:Value),h.get? f=some (DR F.base.qual F.base.params F.base.body F.base.scope F.base.cl (.ref F.t) pm (.ref F.base.c) ctv)
theorem NP {P:Program}{w:World}{H:Hp}{h:Heap}{f:Addr}{F:LFd}{pm ctv:Value}(e:h.get? f=some (DR F.base.qual F.base.params F.base.body F.base.scope F.base.cl (.ref F.t) pm (.ref F.base.c) ctv)):ObjOk P w H h f (uE f F):=
 ⟨⟨pm,ctv,e⟩,⟨_,e⟩,fun h1 h2 ⟨a,b,z⟩ k=>⟨a,b,k _ z⟩⟩
theorem Bs {P:Program}{w:World}{H:Hp}{h:Heap}{f:Addr}{F:LFd}(hok:HOk P w H h) (e:H f=some (uE f F)):∃pm ctv,h.get? f=some (DR F.base.qual F.base.params F.base.body F.base.scope F.base.cl (.ref F.t) pm (.ref F.base.c) ctv):=by
 have x:ObjOk P w H h f (.ext fun h=>∃(pm ctv:Value),h.get? f=some (DR F.base.qual F.base.params F.base.body F.base.scope F.base.cl (.ref F.t) pm (.ref F.base.c) ctv)):=hok f _ e
 exact x.1
section
variable {M:Model}{A:Around}{E:Value→Shared→Prop}{s:Shared}{qual:Str}{params:Arguments}{body:Expr}{scope:Scope}{env:Env}{c P:Addr}{ps:Array Value}{pos:Pos}{fl:Nat}{mg:Str→Option Value}{clos:List (Str×Addr)}{Q:Value→Shared→Prop}{dv:Value}
theorem Y8 (hcl:closureFor scope env=pure clos) (e0:env.globals=mainGlobals) (hg:s.heap.Ns mainGlobals mg) (hcode:env.code = .ref c) (C:CodeHd s.heap c P) (hP:s.heap.get? P=some (tabObj ps)) (ht:TriplesOk ps.toList) (hnf:codeAmong pos ps.toList=none) (hgP:mainGlobals≠P) (hb:s.heap.BuiltinsAt mg P)
  (h:∀c' ctv h' tk,Heap.ExtBut P s.heap h'→s.heap.objs.size≤c'→c'<h'.objs.size→h'.CodeRec (.ref c') qual→h'.get? P=some (tabObj (ps ++ #[rawInt pos.line,rawInt pos.col,.ref c']))→Q (.ref h'.objs.size) { s with heap:=h'.push (DR qual params body scope clos dv ((mg "__name__").getD .none) (.ref c') ctv),toks:=tk}) :
  wpAny M A (makeTail "<lambda>" qual params (.expr body) scope env dv .none none pos fl) Q E s:=by
 obtain ⟨bm,ob,b1,b2,_,b3,b4,b5,b6,b7⟩:=hb
 unfold makeTail
 rw [hcl,e0];refine wpAny_bind (wpAny_pure ?_)
 cases clos with
 | nil=>
  simp only [List.isEmpty_nil,if_true];refine wpAny_bind (wpAny_pure ?_)
  refine wpAny_bind (wpAny_functionCodeX hcode (C.code hP ht) (C.tab hP) hnf fun c' g tk hx u1 u2 _ u3 u4 _=> ?_)
  have gg:=hg.extBut hx hgP
  refine wpAny_bind (wpAny_builtinsFor gg b1 b2 (hx _ _ b3 b4) b5 b6 b7 (wpAny_bind (wpAny_nsGet gg ?_)))
  exact wpAny_bind (wpAny_pure (wpAny_newObj_type (h c' .none g tk hx u1 u2 u3 u4.2) (by size_fits)))
 | cons q r=>
  simp only [List.isEmpty_cons,Bool.false_eq_true,if_false];refine wpAny_bind (wpAny_newTextTuple ?_)
  have kp:∀{o:Obj} b u,s.heap.get? b=some u→(s.heap.push o).get? b=some u:=fun b u e=>Heap.get?_push_of_some _ e
  refine wpAny_bind (wpAny_functionCodeX hcode ((C.keeps kp).code (kp _ _ hP) ht) ((C.keeps kp).tab (kp _ _ hP)) hnf fun c' g tk hx u1 u2 _ u3 u4 _=> ?_)
  have gg:=(hg.push _).extBut hx hgP
  have hy:Heap.ExtBut P s.heap g:=fun b o n e=>hx b o n (kp _ _ e)
  have u0:s.heap.objs.size≤c':=Nat.le_trans (by rw [Heap.size_push];omega) u1
  refine wpAny_bind (wpAny_builtinsFor gg b1 b2 (hy _ _ b3 b4) b5 b6 b7 (wpAny_bind (wpAny_nsGet gg ?_)))
  exact wpAny_bind (wpAny_pure (wpAny_newObj_type (h c' _ g tk hy u0 u2 u3 u4.2) (by size_fits)))
theorem aaL {cv:Value}(hcl:closureFor scope env=pure clos) (e0:env.globals=mainGlobals) (hg:s.heap.Ns mainGlobals mg) (hcode:env.code = .ref c) (C:CodeHd s.heap c P) (hP:s.heap.get? P=some (tabObj ps)) (ht:TriplesOk ps.toList) (hf:codeAmong pos ps.toList=some cv) (hb:s.heap.BuiltinsAt mg P)
  (h:∀(ctv:Value) (h':Heap) (tk:Tok),(∀b o,s.heap.get? b=some o→h'.get? b=some o)→s.heap.objs.size≤h'.objs.size→Q (.ref h'.objs.size) { s with heap:=h'.push (DR qual params body scope clos dv ((mg "__name__").getD .none) cv ctv),toks:=tk}) :
  wpAny M A (makeTail "<lambda>" qual params (.expr body) scope env dv .none none pos fl) Q E s:=by
 obtain ⟨bm,ob,b1,b2,_,b3,b4,b5,b6,b7⟩:=hb
 unfold makeTail
 rw [hcl,e0];refine wpAny_bind (wpAny_pure ?_)
 cases clos with
 | nil=>
  simp only [List.isEmpty_nil,if_true];refine wpAny_bind (wpAny_pure ?_)
  refine wpAny_bind (wpAny_functionCode_hit hcode (C.code hP ht) hf (wpAny_bind (wpAny_builtinsFor hg b1 b2 b4 b5 b6 b7 (wpAny_bind (wpAny_nsGet hg ?_)))))
  exact wpAny_bind (wpAny_pure (wpAny_newObj_type (h .none _ s.toks (fun _ _ e=>e) (Nat.le_refl _)) (by size_fits)))
 | cons q r=>
  simp only [List.isEmpty_cons,Bool.false_eq_true,if_false];refine wpAny_bind (wpAny_newTextTuple ?_)
  have kp:∀{o:Obj} b u,s.heap.get? b=some u→(s.heap.push o).get? b=some u:=fun b u e=>Heap.get?_push_of_some _ e
  refine wpAny_bind (wpAny_functionCode_hit hcode ((C.keeps kp).code (kp _ _ hP) ht) hf (wpAny_bind (wpAny_builtinsFor (hg.push _) b1 b2 (kp _ _ b4) b5 b6 b7 (wpAny_bind (wpAny_nsGet (hg.push _) ?_)))))
  exact wpAny_bind (wpAny_pure (wpAny_newObj_type (h _ _ s.toks (fun b o e=>kp _ _ e) (by rw [Heap.size_push];omega)) (by size_fits)))
end
def ac8 (T:List NdefX.NTab) (P:Addr) (i:Int) (mk:Addr→Addr→LFd):TE:=fun σ H Q=>NdefX.TabsN T H∧∀(f c t:Addr) (H1:Hp),(∀b o,b≠P→H b=some o→H1 b=some o)→NdefX.TabsN T H1→H f=none→H t=none→f≠t→H1 t=some (.tup [.int i])→H1 f=some (uE f (mk c t))→H1 c=some (LamX.CodeO c (mk c t).base.qual)→Q (.ref f) H1
section
variable {X:Cx}
theorem Y0 {T:List NdefX.NTab}{c P:Addr}{q:Str}{i:Int}{params:Arguments}{body de:Expr}{scope:Scope}{pos:Pos}(TB:LamX.TabB X.base X.mg c P) (hcode:X.env.code = .ref c) (hq:X.env.qual ++ "<lambda>" = q) (hm:Ug P q∈T) (hu:∀p∈T,p.1=P→p=Ug P q)
  (hdef:defaultsOf params X.env=([eval de X.env],[])) (hko:params.kwonlyargs=[]) (pd:PE X de (tC (.int i))) (hfree:∀y∈scope.names,y.2 = .free→X.env.scope.names.lookup y.1=some .cell∨X.env.scope.names.lookup y.1=some .free) :
  PE X (.Lambda params body scope pos) (ac8 T P i fun c' t=>⟨⟨q,params,body,scope,cloFrom X.env.cells scope.names [],c'⟩,t⟩):=by
 refine ⟨fun pins s σ H Q I h=> ?_⟩
 obtain ⟨hT,h⟩:=h
 rw [arm_eval_Lambda,hdef]
 show wpAny _ _ (do let dv ←evalAll [eval de X.env];let kdv ←holding dv (evalAllOpt []);makeFunction "<lambda>" (X.env.qual ++ "<lambda>") params (.expr body) scope X.env dv kdv [] pos pos.line) _ _ s
 refine wpAny_bind (wpAny_bind (wpAny_mono (pd.run pins s σ H (fun v H1=>v = .int i∧H1=H) I ⟨rfl,rfl⟩) (fun u s1 ⟨v,H1,I1,rv,ev,eH⟩=> ?_) fun _ _ z=>z))
 subst ev eH
 obtain ⟨tk0,rfl⟩:=rv
 refine wpAny_bind (wpAny_holding (wpAny_pure (wpAny_pure (wpAny_bind (wpAny_holding (wpAny_pure ?_))))))
 rw [makeFunction_eq,hko,hq]
 simp only [List.zip_nil_left,List.filterMap_nil,List.isEmpty_nil,List.isEmpty_cons,Bool.false_eq_true,if_true,if_false,pure_bind]
 refine wpAny_bind (wpAny_newTextTuple ?_)
 have hcl:∀y∈scope.names,y.2 = .free→∃c,X.env.cells.lookup y.1=some c:=fun y hy e=>(hfree y hy e).elim (fun z=>I.ok.has _ (.inl z)) fun z=>I.ok.has _ (.inr z)
 have nT:H1 s1.heap.objs.size=none:=I1.hok.fresh (Nat.le_refl _)
 have IT:=I1.laid (a:=s1.heap.objs.size) (o:= .tup [.int i]) (t':=s1.toks) (h':=s1.heap.push { cls:= .type "tuple",data:= .seq [Value.int i tk0].toArray}) (fun b u e=>Heap.get?_push_of_some _ e) (Nat.le_refl _) ⟨by simp [sizeLine_eq],[Value.int i tk0],.cons ⟨_,rfl⟩ .nil,IsTup.new _ _⟩
 generalize hHT:upd H1 s1.heap.objs.size (.tup [.int i])=HT at IT
 have kT:∀b o,H1 b=some o→HT b=some o:=fun b o e=>by rw [←hHT];exact bh nT b o e
 have eT:HT s1.heap.objs.size=some (.tup [.int i]):=by rw [←hHT,upd_same]
 obtain ⟨ps,hP,tr,al⟩:∃ps:Array Value,H1 P=some (.tbl ps)∧TriplesOk ps.toList∧∀(pos:Pos) (cv:Value),codeAmong pos ps.toList=some cv→∃c,cv = .ref c∧H1 c=some (LamX.CodeO c q):=hT _ hm
 have hPT:HT P=some (.tbl ps):=kT _ _ hP
 have gP:(s1.heap.push { cls:= .type "tuple",data:= .seq [Value.int i tk0].toArray}).get? P=some { cls:= .none,data:= .fields ps}:=IT.hok P _ hPT
 have TT:NdefX.TabsN T HT:=hT.ext kT
 cases hc:codeAmong pos ps.toList with
 | none=>
  refine Y8 (closure_ok hcl) I.ok.glob (I.mod.glob.keeps IT.bk) hcode (TB.code.keeps IT.bk) gP tr hc TB.gP (TB.bm.keeps IT.bk) fun c' ctv h' tk hx hge hlt hrec htb=> ?_
  obtain ⟨c2,oc,vs,t,e2,hoc,hd,hv⟩:=hrec
  cases e2
  have nC:HT c'=none:=IT.hok.fresh hge
  have I2:=LamX.inv_table (t':=tk) (more:= #[rawInt pos.line,rawInt pos.col,.ref c']) (h':=h') IT hPT (fun b o hb e=>hx b o hb e) htb hge ⟨oc,vs,t,hoc,hd,hv⟩
  generalize hH1:upd (upd HT P (.tbl (ps ++ #[rawInt pos.line,rawInt pos.col,.ref c']))) c' (LamX.CodeO c' q)=H2 at I2
  have k1:∀b o,b≠P→HT b=some o→H2 b=some o:=fun b o n e=>by
   rw [←hH1,upd_ne (ne_of_none e nC),upd_ne n]
   exact e
  have eP:H2 P=some (.tbl (ps ++ #[rawInt pos.line,rawInt pos.col,.ref c'])):=by rw [←hH1,upd_ne (ne_of_none hPT nC),upd_same]
  have eC:H2 c'=some (LamX.CodeO c' q):=by rw [←hH1,upd_same]
  have cP:∀{c0:Addr},HT c0=some (LamX.CodeO c0 q)→H2 c0=some (LamX.CodeO c0 q):=fun {c0} e=>k1 _ _ (fun z=>by rw [z,hPT] at e;unfold LamX.CodeO at e;cases e) e
  have lst:(ps ++ #[rawInt pos.line,rawInt pos.col,.ref c']).toList=ps.toList++[rawInt pos.line,rawInt pos.col,.ref c']:=by simp
  have T1:NdefX.TabsN T H2:=fun p hp=>by
   by_cases hb:p.1=P
   ·rw [hu p hp hb]
    refine ⟨_,eP,by rw [lst];exact PySem.TriplesOk_snoc _ _ _ _ tr,fun p' cv hcv=> ?_⟩
    rw [lst] at hcv
    rcases LamX.among_app _ tr hcv with z | z
    ·obtain ⟨c0,e1,e2⟩:=al p' cv z
     exact ⟨c0,e1,cP (kT _ _ e2)⟩
    ·exact ⟨c',z,eC⟩
   ·obtain ⟨ps',a1,a2,a3⟩:=TT p hp
    refine ⟨ps',k1 _ _ hb a1,a2,fun p' cv hcv=> ?_⟩
    obtain ⟨c0,e1,e2⟩:=a3 p' cv hcv
    exact ⟨c0,e1,k1 _ _ (fun z=>by rw [z,hPT] at e2;unfold LamX.CodeO at e2;cases e2) e2⟩
  have nF:H2 h'.objs.size=none:=I2.hok.fresh (Nat.le_refl _)
  have I3:=I2.laid (a:=h'.objs.size) (o:=uE h'.objs.size ⟨⟨q,params,body,scope,cloFrom X.env.cells scope.names [],c'⟩,s1.heap.objs.size⟩) (t':=tk) (h':=h'.push (DR q params body scope (cloFrom X.env.cells scope.names []) (.ref s1.heap.objs.size) ((X.mg "__name__").getD .none) (.ref c') ctv))
   (fun b u e=>Heap.get?_push_of_some _ e) (Nat.le_refl _) (NP (Heap.get?_push_size _ rfl))
  have szl:s1.heap.objs.size<h'.objs.size:=by
   have:=Heap.size_push s1.heap { cls:= .type "tuple",data:= .seq [Value.int i tk0].toArray}
   rw [this] at hge
   omega
  refine ⟨.ref h'.objs.size,_,I3,rfl,h h'.objs.size c' s1.heap.objs.size _ (fun b o n e=> ?_) (T1.ext fun b o e=>bh nF b o e) (I1.hok.fresh (Nat.le_of_lt szl)) nT (Nat.ne_of_gt szl) (bh nF _ _ (k1 _ _ (fun z=>by rw [z,hPT] at eT;cases eT) eT)) upd_same (bh nF _ _ eC)⟩
  exact bh nF _ _ (k1 b o n (kT _ _ e))
 | some cv=>
  obtain ⟨c',e,hco⟩:=al pos cv hc
  subst e
  refine aaL (closure_ok hcl) I.ok.glob (I.mod.glob.keeps IT.bk) hcode (TB.code.keeps IT.bk) gP tr hc (TB.bm.keeps IT.bk) fun ctv h' tk hx hsz=> ?_
  have I2:Inv X pins σ HT { s1 with heap:=h',toks:=tk}:=IT.kept (t':=tk) hx
  have nF:HT h'.objs.size=none:=I2.hok.fresh (Nat.le_refl _)
  have I3:=I2.laid (a:=h'.objs.size) (o:=uE h'.objs.size ⟨⟨q,params,body,scope,cloFrom X.env.cells scope.names [],c'⟩,s1.heap.objs.size⟩) (t':=tk) (h':=h'.push (DR q params body scope (cloFrom X.env.cells scope.names []) (.ref s1.heap.objs.size) ((X.mg "__name__").getD .none) (.ref c') ctv))
   (fun b u e=>Heap.get?_push_of_some _ e) (Nat.le_refl _) (NP (Heap.get?_push_size _ rfl))
  have szl:s1.heap.objs.size<h'.objs.size:=by
   have:=Heap.size_push s1.heap { cls:= .type "tuple",data:= .seq [Value.int i tk0].toArray}
   have h2:(s1.heap.push { cls:= .type "tuple",data:= .seq [Value.int i tk0].toArray}).objs.size≤h'.objs.size:=hsz
   rw [this] at h2
   omega
  exact ⟨.ref h'.objs.size,_,I3,rfl,h h'.objs.size c' s1.heap.objs.size _ (fun b o _ e=>bh nF b o (kT _ _ e)) (TT.ext fun b o e=>bh nF b o e) (I1.hok.fresh (Nat.le_of_lt szl)) nT (Nat.ne_of_gt szl) (bh nF _ _ eT) upd_same (bh nF _ _ (kT _ _ hco))⟩
end
variable {G:Gd}
def vM (i:Int) (capL:List Sl) (mlam:bJ D) (ds:List D):M D:=match ds with
 | []=>mlam (.va (.int i)::capL)
 | _=>stk
section
variable {X:Cx}{pins:List (Addr×Obj)}{σ:L2.St}{H HZ:Hp}{s sZ:Shared}{T:List NdefX.NTab}{y:Str}{cap:List (Nat×Str)}{q:Str}{params:Arguments}{body:Expr}{scope:Scope}{f c t:Addr}{i:Int}{k:Nat}{mlam:bJ D}{B0:Hp}{ls:List Sl}{W0:Wd}{H00:Hp}
variable {Ng:List Str}{qg:Str}{sg:Scope}{g:Addr}{cdg:Value}{Eg:XK}{pn:List (Addr×Obj)}{xe:Value→Shared→Prop}{Wc:WX}
abbrev Ru (q:Str) (params:Arguments) (body:Expr) (scope:Scope) (y:Str):Prop:=∀(t:Addr) (cl:List (Str×Addr)) (pm cv ctv it:Value),∃k,bindArgs (abO q params body scope cl (.ref t) pm cv ctv) ⟨[],[]⟩=seqItems? (.ref t) >>= k∧k (some #[it])=pure [(y,it)]
theorem N8 {pinsZ:List (Addr×Obj)}{σZ:L2.St}{Q:VK}{us:List Value}{vs:List V}(I:Inv X pins σ H s) (L:LamP [y] X.env.scope scope) (hc:∀p∈cap,X.N[p.1]?=some p.2∧p.2∉[y]) (sm:Sm G W0 X.K H00 B0 H σ ls) (hbind:Ru q params body scope y)
  (hlam:∀(A:Around) (outer:List Env) (s:Shared) (H:Hp) (E:XK) (f c:Addr),RoomG k (A.deeper (zN X q scope s.heap.objs.size f c))→SE (G0 T X.w) (FT X ([y]++cap.map (·.2)) q scope f c A outer s H E) (EW E) body mlam)
  (hf:B0 f=some (uE f ⟨⟨q,params,body,scope,cloFrom X.env.cells scope.names [],c⟩,t⟩)) (ht:B0 t=some (.tup [.int i])) (hr:RoomG (k+1) (X.A.deeper (envOfC qg sg s.heap.objs.size g cdg)))
  (tk:Takes ((cxOf (L2.CX X.prog X.w) X.prog X.w X.K X.mg X.base Ng qg sg g cdg X.A X.stack s H Eg).tr pn xe) Wc)
  (IZ:Inv ((cxOf (L2.CX X.prog X.w) X.prog X.w X.K X.mg X.base Ng qg sg g cdg X.A X.stack s H Eg).tr pn xe) pinsZ σZ HZ sZ) (r:Vals vs us) (h:spL X.K T B0 c q (vM i (gJ cap ls) mlam) vs HZ Q (fun c d H'=>Wc c d σZ H')) :
  wpAny (model X.prog X.w) (X.A.deeper (envOfC qg sg s.heap.objs.size g cdg)) (call (.ref f) us) (EP ((cxOf (L2.CX X.prog X.w) X.prog X.w X.K X.mg X.base Ng qg sg g cdg X.A X.stack s H Eg).tr pn xe) pinsZ σZ Q) xe sZ:=by
 obtain ⟨W,B,sd,ds,et,sb,kn,wk,rd,hcd,an⟩:=h
 unfold vM at an
 split at an
 case h_2=>exact (show False from an).elim
 cases rd
 cases r
 obtain ⟨pm,ctv,of1⟩:=Bs IZ.hok (kn.get (sb _ _ hf))
 obtain ⟨_,its,rits,ot,hot,hct,nt,hdt⟩:=(show ObjOk X.prog X.w HZ sZ.heap t (.tup [.int i]) from IZ.hok t _ (kn.get (sb _ _ ht)))
 obtain ⟨it,rfl,rit⟩:∃it,its=[it]∧RelV (.int i) it:=by
  cases rits with
  | cons a b=>cases b;exact ⟨_,rfl,a⟩
 have un:Un (frs X.stack) [] H HZ s.heap sZ.heap:=IZ.base
 have rc:codeAny (model X.prog X.w) (X.A.deeper (envOfC qg sg s.heap.objs.size g cdg)) (.call (.ref f) ⟨[],[]⟩) (CR (L2.CX X.prog X.w) (envOfC qg sg s.heap.objs.size g cdg::X.stack) X.prog X.w HZ sZ Q (fun c d H'=>Wc c d σZ H')) sZ:=by
  refine kla_callFunE hr.room.depth of1 rfl L.co L.gen rfl (NdefX.codeO_at IZ.hok hcd) ?_
  obtain ⟨kk,e1,e2⟩:=hbind t (cloFrom X.env.cells scope.names []) pm (.ref c) ctv it
  show wpAny _ _ (bindArgs (abO q params body scope (cloFrom X.env.cells scope.names []) (.ref t) pm (.ref c) ctv) ⟨[],[]⟩) _ _ _
  rw [e1]
  refine wpAny_bind (wpAny_seqItems hot hdt ?_)
  rw [e2]
  refine wpAny_pure (wpAny_newFunctionEnv (fun z hz=>(L.own z hz).1) (fun z hz=>L.par z.1 ?_) (fun h1 hns hsb=>⟨IZ.nolimit.fresh _ hsb,?_⟩) L.kind)
  ·cases hz with
   | head=>exact List.mem_singleton.mpr rfl
   | tail _ hz=>cases hz
  show codeAny _ _ (.expr body (zN X q scope sZ.heap.objs.size f c)) _ _
  have kp:∀b o,sZ.heap.get? b=some o→h1.get? b=some o:=fun b o e=>hsb.extBut b o (Nat.ne_of_lt (Heap.lt_size e)) (Heap.get?_push_of_some _ e)
  have J:=U5 (E:=fun c d H'=>Wc c d σZ H') (cap:=cap) (q:=q) (f:=f) (c:=c) (tk:=sZ.toks+1) (vs:=[.int i]) (us:=[it]) I L IZ.env0 hr.room.hd un hns kp (.cons rit .nil) rfl hc
  obtain ⟨tt,pt,ht'⟩:=(hlam _ (envOfC qg sg s.heap.objs.size g cdg::X.stack) sZ HZ (fun c d H'=>Wc c d σZ H') f c (hr.deeper _)).ex
  refine kla_codeExpr (wpAny_mono (pt.run [] _ _ HZ Q J (ht' W HZ _ B HZ _ sd Q kn wk (Xg (vs:=[.int i]) (ds:=[.int i]) sm sb (.cons (.int i) .nil) et) an)) (fun v s' hq=> ?_) fun e s' hq=>hq)
  obtain ⟨v',H',J',rv,qv⟩:=hq
  exact ⟨v',H',J'.os,J'.bare,J'.base,J'.hok,rv,qv⟩
 refine wpAny_call (codeAny_mono rc fun z s' hq=> ?_)
 cases z with
 | error e=>exact passAt tk σZ pinsZ HZ sZ e s' IZ hq
 | ok fl=>
  cases fl with
  | ret u=>exact IZ.after hq
  | next=>exact False.elim hq
  | brk=>exact False.elim hq
  | cont=>exact False.elim hq
theorem Za {a:Str}{j:Nat}(I:Inv X pins σ H s) (L:LamP [y] X.env.scope scope) (hc:∀p∈cap,X.N[p.1]?=some p.2∧p.2∉[y]) (sm:Sm G W0 X.K H00 B0 H σ ls) (hbind:Ru q params body scope y)
  (hlam:∀(A:Around) (outer:List Env) (s:Shared) (H:Hp) (E:XK) (f c:Addr),RoomG k (A.deeper (zN X q scope s.heap.objs.size f c))→SE (G0 T X.w) (FT X ([y]++cap.map (·.2)) q scope f c A outer s H E) (EW E) body mlam)
  (hf:B0 f=some (uE f ⟨⟨q,params,body,scope,cloFrom X.env.cells scope.names [],c⟩,t⟩)) (ht:B0 t=some (.tup [.int i])) (hr:RoomG (k+1) (X.A.deeper (envOfC qg sg s.heap.objs.size g cdg)))
  (hN:Ng[j]?=some a) (hv:Vis sg a) (hd:(a==("__debug__" : Str))=false) (hcd:(a==("__classdict__" : Str))=false) :
  Act (GL T X.w f B0 c q) (cxOf (L2.CX X.prog X.w) X.prog X.w X.K X.mg X.base Ng qg sg g cdg X.A X.stack s H Eg) a j (vM i (gJ cap ls) mlam):=by
 refine ⟨fun {pn xe Wc e es ms p1 p2} tk ha hs hp=> ?_,fun {pn xe Wc p1 p2} tk=> ?_⟩
 ·obtain ⟨ta,pa,ha⟩:=ha.ex
  refine ⟨fun σZ HZ Q=>σZ[j]?=some (some (.ref f))∧HZ f=some (uE f ⟨⟨q,params,body,scope,cloFrom X.env.cells scope.names [],c⟩,t⟩)∧ta σZ HZ (fun vs H2=>spL X.K T B0 c q (vM i (gJ cap ls) mlam) vs H2 Q (fun c d H'=>Wc c d σZ H')),⟨fun pinsZ sZ σZ HZ Q IZ h=> ?_⟩,fun W H0 σ1 B H1 l1 s1 Q kn w sm1 h=> ?_⟩
  ·obtain ⟨h1,h2,h3⟩:=h
   refine wpAny_Call_Name_kw (thn ((pe_var (pos:=p1) (i:=j) hN hv hd hcd).run pinsZ sZ σZ HZ (fun v H1=>v = .ref f∧H1=HZ) IZ ⟨.ref f,h1,rfl,rfl⟩) fun u s2 ⟨v,H2,I2,r2,q2⟩=> ?_)
   obtain ⟨ev,eH⟩:=q2
   subst ev eH
   cases r2
   obtain ⟨pm,ctv,of2⟩:=Bs I2.hok h2
   refine callWith_F ⟨_,_,_,_,of2⟩ (thn (pa.run p2 pinsZ s2 σZ _ _ I2 h3) fun us s3 ⟨vs,H3,I3,r3,q3⟩=> ?_) hs hp
   have q4:=q3
   obtain ⟨W,B,sd,ds,et,sb,kn,_⟩:=q4
   obtain ⟨pm3,ctv3,of3⟩:=Bs I3.hok (kn.get (sb _ _ hf))
   exact ⟨⟨_,_,_,_,of3⟩,N8 I L hc sm hbind hlam hf ht hr tk I3 r3 q3⟩
  ·unfold Jb at h
   cases el:l1[j]? with
   | none=>rw [el] at h;exact (show False from h).elim
   | some sl=>
    rw [el] at h
    cases sl with
    | cl=>
     obtain ⟨ov,e1,e2⟩:=sm1.sl j _ el
     have e2:ov=some (.ref f):=e2
     subst e2
     have gd:Sub B0 B∧¬W.gq c∧H1 c=some (LamX.CodeO c q)∧Nt B c:=sm1.gd.1
     refine ⟨e1,kn.get (gd.1 _ _ hf),ha W H0 σ1 B H1 l1 s1 _ kn w sm1 ?_⟩
     have h:Ans W X.K B H1 (bnd (ms l1) (vM i (gJ cap ls) mlam) s1) Q (fun c d H'=>Wc c d σ1 H'):=h
     cases e3:ms l1 s1 with
     | stuck=>rw [aO e3] at h;exact h
     | exc C fs s'=>rw [aC e3] at h;exact h
     | ok ds s2=>
      rw [aP e3] at h
      exact fun vs B2 H2 g2 w2 r2=>⟨W,B2,s2,ds,sm1.gd.2,gd.1.trans g2.bb,g2.kn,w2,r2,g2.hh _ _ gd.2.1 gd.2.2.2 gd.2.2.1,h.grow g2⟩
    | un=>exact (show False from h).elim
    | od kvs=>exact (show False from h).elim
    | oi kvs=>exact (show False from h).elim
    | on kvs=>exact (show False from h).elim
    | bo d=>exact (show False from h).elim
    | bz d=>exact (show False from h).elim
    | va d=>exact (show False from h).elim
    | ow d=>exact (show False from h).elim
 ·refine ⟨fun σZ HZ Q=>σZ[j]?=some (some (.ref f))∧HZ f=some (uE f ⟨⟨q,params,body,scope,cloFrom X.env.cells scope.names [],c⟩,t⟩)∧spL X.K T B0 c q (vM i (gJ cap ls) mlam) [] HZ Q (fun c d H'=>Wc c d σZ H'),⟨fun pinsZ sZ σZ HZ Q IZ h=> ?_⟩,fun W H0 σ1 B H1 l1 s1 Q kn w sm1 h=> ?_⟩
  ·obtain ⟨h1,h2,h3⟩:=h
   refine wpAny_Call_Name_kw (thn ((pe_var (pos:=p1) (i:=j) hN hv hd hcd).run pinsZ sZ σZ HZ (fun v H1=>v = .ref f∧H1=HZ) IZ ⟨.ref f,h1,rfl,rfl⟩) fun u s2 ⟨v,H2,I2,r2,q2⟩=> ?_)
   obtain ⟨ev,eH⟩:=q2
   subst ev eH
   cases r2
   obtain ⟨pm,ctv,of2⟩:=Bs I2.hok h2
   exact callWith_F0 ⟨_,_,_,_,of2⟩ (N8 I L hc sm hbind hlam hf ht hr tk I2 .nil h3)
  ·unfold Jb at h
   cases el:l1[j]? with
   | none=>rw [el] at h;exact (show False from h).elim
   | some sl=>
    rw [el] at h
    cases sl with
    | cl=>
     obtain ⟨ov,e1,e2⟩:=sm1.sl j _ el
     have e2:ov=some (.ref f):=e2
     subst e2
     have gd:Sub B0 B∧¬W.gq c∧H1 c=some (LamX.CodeO c q)∧Nt B c:=sm1.gd.1
     exact ⟨e1,kn.get (gd.1 _ _ hf),W,B,s1,[],sm1.gd.2,gd.1,kn,w,.nil,gd.2.2.1,h⟩
    | un=>exact (show False from h).elim
    | od kvs=>exact (show False from h).elim
    | oi kvs=>exact (show False from h).elim
    | on kvs=>exact (show False from h).elim
    | bo d=>exact (show False from h).elim
    | bz d=>exact (show False from h).elim
    | va d=>exact (show False from h).elim
    | ow d=>exact (show False from h).elim
end
def abw (W:Wd) (K:Frag) (i:Int) (mk:Addr→Addr→LFd) (B H:Hp) (r:Res (List D)) (Q:List V→Hp→Prop) (E:XK):Prop:=match r with
 | .ok ds s'=>∀(vs:List V) (f c t:Addr) (B' H':Hp),Gr W B H B' H'→W.ok s' B' H'→DvL K B' vs ds→B' f=some (uE f (mk c t))→B' t=some (.tup [.int i])→¬W.gq c→H' c=some (LamX.CodeO c (mk c t).base.qual)→Q (vs++[.ref f]) H'
 | .exc C fs s'=>XW W K B H C fs s' E
 | .stuck=>False
structure SALD (G:Gd) (X:Cx) (Wx:WX) (i:Int) (es:List Expr) (mk:Addr→Addr→LFd) (ms:bJ (List D)):Prop where
 ex:∃t,PA X es t∧∀(W:Wd) (H0:Hp) (σ:L2.St) (B H:Hp) (ls:List Sl) (s:DS) (Q:List V→Hp→Prop),Kn W B H→W.ok s B H→Sm G W X.K H0 B H σ ls→abw W X.K i mk B H (ms ls s) Q (fun c d H'=>Wx c d σ H')→t σ H Q
section
variable {X:Cx}{Wx:WX}{e:Expr}{es:List Expr}{ma:bJ D}{ms:bJ (List D)}
theorem WL {c P:Addr}{q:Str}{i:Int}{params:Arguments}{body de:Expr}{scope:Scope}{pos:Pos}(TB:LamX.TabB X.base X.mg c P) (hcode:X.env.code = .ref c) (hq:X.env.qual ++ "<lambda>" = q) (hm:Ug P q∈G.tb) (hu:∀p∈G.tb,p.1=P→p=Ug P q)
  (hdef:defaultsOf params X.env=([eval de X.env],[])) (hko:params.kwonlyargs=[]) (pd:PE X de (tC (.int i))) (hfree:∀y∈scope.names,y.2 = .free→X.env.scope.names.lookup y.1=some .cell∨X.env.scope.names.lookup y.1=some .free) (hs:starEach [.Lambda params body scope pos] X.env=(false,eval (.Lambda params body scope pos) X.env)::starEach [] X.env:=by rfl) :
  SALD G X Wx i [.Lambda params body scope pos] (fun c' t=>⟨⟨q,params,body,scope,cloFrom X.env.cells scope.names [],c'⟩,t⟩) (fun _=>ret []):=by
 refine ⟨_,pa_cons (Y0 TB hcode hq hm hu hdef hko pd hfree) pa_nil hs,fun W H0 σ B H ls s Q kn w sm h=> ?_⟩
 have et:=sm.gd.2.1
 refine ⟨by rw [←et];exact w.tb,fun f c1 t1 H1 k1 T1 n1 n2 nft t1' f1 c1'=> ?_⟩
 rw [←et] at T1 hm
 obtain ⟨g1,w1⟩:=Od hm kn w k1 T1
 have nv:∀{f:Addr},H f=none→¬W.gq f:=fun {f} n1 v=>by
  obtain ⟨o,e⟩:=w.dom v
  rw [e] at n1
  cases n1
 have bf:B f=none:=cA kn n1
 have bt:B t1=none:=cA kn n2
 have bt':upd B f (uE f ⟨⟨q,params,body,scope,cloFrom X.env.cells scope.names [],c1⟩,t1⟩) t1=none:=by rw [upd_ne (Ne.symm nft)];exact bt
 have g2:Gr W B H (upd (upd B f (uE f ⟨⟨q,params,body,scope,cloFrom X.env.cells scope.names [],c1⟩,t1⟩)) t1 (.tup [.int i])) H1:=by
  refine ⟨fun a o e=> ?_,(bh bf).trans (bh bt'),g1.hx,fun a o e _=> ?_⟩
  ·by_cases ha:a=t1
   ·subst ha
    rw [upd_same] at e
    cases e
    exact ⟨nv n2,Or.inl ⟨rfl,t1'⟩⟩
   ·rw [upd_ne ha] at e
    by_cases hb:a=f
    ·subst hb
     rw [upd_same] at e
     cases e
     exact ⟨nv n1,Or.inl ⟨rfl,f1⟩⟩
    ·rw [upd_ne hb] at e
     exact g1.kn a o e
  ·rw [upd_ne (ne_of_none e n2),upd_ne (ne_of_none e n1)]
 exact h [] f c1 t1 _ _ g2 ((w1.U0 bf).U0 bt') .nil (by rw [upd_ne nft];exact upd_same) upd_same (Sq w1 c1') c1'
variable {pos p:Pos}{x a q y:Str}{i:Int}{g:Addr}{fdg:FuncData}{pg:Arguments}{bg:List Stmt}{sg:Scope}{Ng psg:List Str}{cap:List (Nat×Str)}{params:Arguments}{body:Expr}{scope:Scope}{k kc:Nat}{mlam:bJ D}{mb:(List D→M D)→MS}{ks:List (Str×V)}
theorem O2 (hr:RoomG (k+2) X.A) (hg:Gl X x) (hm:X.mg x=some (.ref g)) (F:FunD X.K x x pg bg sg [] ks g fdg) (hb:Binds X.K fdg (psg++[a]) []) (S:FnScope Ng (psg++[a]) sg) (tk:Takes X Wx)
  (hs:SALD G X Wx i (e::es) (fun c' t=>⟨⟨q,params,body,scope,cloFrom X.env.cells scope.names [],c'⟩,t⟩) ms)
  (L:LamP [y] X.env.scope scope) (hc:∀p∈cap,X.N[p.1]?=some p.2∧p.2∉[y]) (hbind:Ru q params body scope y)
  (hlam:∀(A:Around) (outer:List Env) (s:Shared) (H:Hp) (E:XK) (f c:Addr),RoomG k (A.deeper (zN X q scope s.heap.objs.size f c))→SE (G0 G.tb X.w) (FT X ([y]++cap.map (·.2)) q scope f c A outer s H E) (EW E) body mlam)
  (hcal:∀(f c:Addr) (B0:Hp) (call:List D→M D) (cdv:Value) (A:Around) (outer:List Env) (s:Shared) (H:Hp) (E:XK),RoomG (k+1) (A.deeper (envOfC x sg s.heap.objs.size g cdv))→Act (GL G.tb X.w f B0 c q) (cxOf (L2.CX X.prog X.w) X.prog X.w X.K X.mg X.base Ng x sg g cdv A outer s H E) a psg.length call →
   SSs (GL G.tb X.w f B0 c q) (cxOf (L2.CX X.prog X.w) X.prog X.w X.K X.mg X.base Ng x sg g cdv A outer s H E) (EW E) bg (mb call))
  (hv:Vis sg a) (hda:(a==("__debug__" : Str))=false) (hca:(a==("__classdict__" : Str))=false) (hdb:(x==("__debug__" : Str))=false)
  (he:starEach (e::es) X.env=(false,eval e X.env)::starEach es X.env) (hpl:(backTo pos (starEach es X.env)).any (·.1)=false) :
  SE G X Wx (.Call (.Name x p) (e::es) [] pos) (fun ls=>bnd (ms ls) (jr Ng.length psg.length mb (vM i (gJ cap ls) mlam))):=by
 obtain ⟨ta,pa,ha⟩:=hs.ex
 have hN:Ng[psg.length]?=some a:=by
  have h1:=S.pre
  have h2:(Ng.take (psg++[a]).length)[psg.length]?=some a:=by
   rw [h1]
   simp
  rw [List.getElem?_take_of_lt (by simp)] at h2
  exact h2
 have hlt:psg.length<Ng.length:=(List.getElem?_eq_some_iff.mp hN).1
 refine ⟨fun σ H Q=>ta σ H fun vs H1=>∃(vs0:List V) (f c t:Addr) (W:Wd) (B:Hp) (sd:DS) (ds:List D) (H0:Hp) (ls:List Sl),vs=vs0++[.ref f]∧Kn W B H1∧W.ok sd B H1∧Sm G W X.K H0 B H1 σ ls∧DvL X.K B vs0 ds∧B f=some (uE f ⟨⟨q,params,body,scope,cloFrom X.env.cells scope.names [],c⟩,t⟩)∧B t=some (.tup [.int i]) ∧
   ¬W.gq c∧H1 c=some (LamX.CodeO c q)∧Ans W X.K B H1 (jr Ng.length psg.length mb (vM i (gJ cap ls) mlam) ds sd) Q (fun c d H'=>Wx c d σ H'),⟨fun pins s σ H Q I h=> ?_⟩,fun W H0 σ B H ls s Q kn w sm h=> ?_⟩
 ·refine wpAny_Call_Name_kw (ld_glob I hg hm ?_ hdb)
  refine callWith_K (h₀:=X.base) I.ok.mod.kin F.kp (thn (pa.run pos pins s σ H _ I h) fun us s1 ⟨vs,H1,I1,r1,q1⟩=>⟨I1.kIn,?_⟩) he hpl
  obtain ⟨vs0,f,c,t,W,B,sd,ds,H0,ls,ev,kn,wk,sm,rd,bf,bt,nc,ec,an⟩:=q1
  subst ev
  unfold jr at an
  split at an
  case isFalse=>exact an.elim
  rename_i hld
  have hl:(vs0++[V.ref f]).length=(psg++[a]).length:=by simp [rd.len,hld]
  have lu:us.length=(psg++[a]).length:=(Paired.length r1).symm.trans hl
  obtain ⟨oc,od,dV,kV,doc,pm,an',cdv,ct,osl,efd,lk,hcd,_,_⟩:=F.ex
  subst efd
  have bd:=hb s1 us I1.kIn (by simpa using lu)
  rw [List.append_nil] at bd
  have rc:codeAny (model X.prog X.w) X.A (.call (.ref g) ⟨us,[]⟩) (CR (L2.CX X.prog X.w) X.stack X.prog X.w H1 s1 Q (fun c d H'=>Wx c d σ H')) s1:=by
   refine LamX.run_ofS (k:=k+1) lk hcd S hr.room I1.env0 bd r1 hl fun _=> ?_
   have hr1:RoomG (k+1) (X.A.deeper (envOfC x sg s1.heap.objs.size g cdv)):=hr.deeper _
   have act:=Za (T:=G.tb) (Ng:=Ng) (Eg:=fun c d H'=>Wx c d σ H') (cdg:=cdv) (g:=g) (j:=psg.length) (k:=k) I1 L hc sm hbind hlam bf bt hr1 hN hv hda hca
   obtain ⟨t,pt,ht⟩:=(hcal f c B _ cdv X.A X.stack s1 H1 (fun c d H'=>Wx c d σ H') hr1 act).ex
   refine ⟨t,pt,ht W B H1 _ B H1 (Jg Ng.length ds) sd _ (Gr.refl kn) wk (RL rd (by rw [rd.len,hld];exact hlt) ⟨nc,ec,wk.ntc ec⟩ sm.gd.2) ?_⟩
   cases e1:mb (vM i (gJ cap ls) mlam) (Jg Ng.length ds) sd with
   | stuck=>rw [aO e1] at an;exact an
   | exc C fs s'=>
    rw [aC e1] at an
    exact fun od σ B' H' g w x=>an od B' H' g w x
   | ok fl s'=>
    rw [aP e1] at an
    cases fl with
    | nx l=>exact fun σ B' H' g w sm=>an .non B' H' g w .non
    | rt d=>exact fun v B' H' g w r=>an v B' H' g w r
    | rl d=>exact (show False from an).elim
    | bk l=>exact (show False from an).elim
    | ct l=>exact (show False from an).elim
  refine wpAny_call (codeAny_mono rc fun z s' hq=> ?_)
  cases z with
  | error e=>exact passAt tk σ pins H1 s1 e s' I1 hq
  | ok fl=>
   cases fl with
   | ret u=>exact I1.after hq
   | next=>exact False.elim hq
   | brk=>exact False.elim hq
   | cont=>exact False.elim hq
 ·refine ha W H0 σ B H ls s _ kn w sm ?_
  cases e1:ms ls s with
  | stuck=>rw [aO e1] at h;exact h
  | exc C fs s'=>rw [aC e1] at h;exact h
  | ok ds s1=>
   rw [aP e1] at h
   exact fun vs f c t B1 H1 g1 w1 r1 b1 t1 n1 c1=>⟨vs,f,c,t,W,B1,s1,ds,H0,ls,rfl,g1.kn,w1,sm.grow g1,r1,b1,t1,n1,c1,h.grow g1⟩
theorem Xk (C:CalL X.prog X.w X.K X.mg X.base G.tb x kc Ng psg a sg mb) (hr:RoomG (k+2) X.A) (hk:kc≤k+1) (hg:Gl X x) (tk:Takes X Wx) (L:LamP [y] X.env.scope scope) (hc:aa9 X.N [y] cap=true)
  (hs:SALD G X Wx i (e::es) (fun c' t=>⟨⟨q,params,body,scope,cloFrom X.env.cells scope.names [],c'⟩,t⟩) ms) (hbind:Ru q params body scope y)
  (hlam:∀(A:Around) (outer:List Env) (s:Shared) (H:Hp) (E:XK) (f c:Addr),RoomG k (A.deeper (zN X q scope s.heap.objs.size f c))→SE (G0 G.tb X.w) (FT X ([y]++cap.map (·.2)) q scope f c A outer s H E) (EW E) body mlam)
  (hv:Vis sg a:=by first | exact Or.inl rfl | exact Or.inr (Or.inl rfl)) (hda:(a==("__debug__" : Str))=false:=by decide) (hca:(a==("__classdict__" : Str))=false:=by decide) (hdb:(x==("__debug__" : Str))=false:=by decide)
  (he:starEach (e::es) X.env=(false,eval e X.env)::starEach es X.env:=by rfl) (hpl:(backTo pos (starEach es X.env)).any (·.1)=false:=by rfl) :
  SE G X Wx (.Call (.Name x p) (e::es) [] pos) (fun ls=>bnd (ms ls) (jr Ng.length psg.length mb (vM i (gJ cap ls) mlam))):=by
 obtain ⟨g,fdg,pg,bg,F,hm,hb,S,body⟩:=C.ex
 exact O2 hr hg hm F hb S tk hs L (SQ hc) hbind hlam (fun f c B0 call cdv A outer s H E h=>body q f c B0 call cdv A outer s H E (h.mono hk)) hv hda hca hdb he hpl
end
variable {G:Gd}
structure CalA (P:Program) (w:World) (K:Frag) (mg:Str→Option Value) (base:Heap) (T:List NdefX.NTab) (a:Addr) (k n:Nat) (m:List D→M D):Prop where
 ex:∃(fd:FuncData) (ps:List Str),FnG P w K mg base k a fd ps (Km K T n m)∧keepIn K (.ref a)=true∧Binds K fd ps []
theorem Cal.at_ {P:Program}{w:World}{K:Frag}{mg:Str→Option Value}{base:Heap}{T:List NdefX.NTab}{x:Str}{a:Addr}{k n:Nat}{m:List D→M D}(C:Cal P w K mg base T x k n m) (h:mg x=some (.ref a)):CalA P w K mg base T a k n m:=by
 obtain ⟨f,fd,ps,F,h1,h2,h3⟩:=C.ex
 rw [h] at h1
 cases h1
 exact ⟨fd,ps,F,h2,h3⟩
def abN:D→D→M D
 | .lst xs,.int k=>if 0≤k∧k≤1000∧xs.length≤1000 then ret (.lst (List.replicate k.toNat xs).flatten) else stk
 | _,_=>stk
section
variable {X:Cx}
theorem acj:Op2 X (binaryOp .Mult) abN:=by
 refine .mk' op_rep fun W B H s x y dx dy Q E k w rx ry h=> ?_
 unfold abN at h
 split at h
 ·rename_i xs j
  split at h
  ·rename_i hc
   obtain ⟨p,vs,rfl,h1,r1⟩:=rx.lst k
   have hz:vs.length*j.toNat≤sizeLine:=by
    have a:vs.length≤1000:=by rw [r1.len];exact hc.2.2
    have b:j.toNat≤1000:=by omega
    rw [sizeLine_eq]
    exact Nat.le_trans (Nat.mul_le_mul a b) (by decide)
   exact ⟨p,_,vs,rfl,ry.int,h1,by omega,by omega,hz,fun c hn=>h.new_ k w hn (.lst upd_same ((r1.rep _).mono (bh (cA k hn))))⟩
  ·exact h.elim
 ·exact (show False from h).elim
end
theorem CalA.mono {P:Program}{w:World}{K:Frag}{mg:Str→Option Value}{base:Heap}{T:List NdefX.NTab}{a:Addr}{k k' n:Nat}{m:List D→M D}(C:CalA P w K mg base T a k n m) (h:k≤k'):CalA P w K mg base T a k' n m:=by
 obtain ⟨fd,ps,F,h2,h3⟩:=C.ex
 exact ⟨fd,ps,⟨F.len,fun A outer s H args us vs Q E rg e b v q=>F.run A outer s H args us vs Q E (rg.mono h) e b v q⟩,h2,h3⟩
theorem Tc {T:List NdefX.NTab}(nd:(T.map (·.1)).Nodup) {t:NdefX.NTab}(ht:t∈T):∀p∈T,p.1=t.1→p=t:=by
 induction T with
 | nil=>exact fun p hp=>nomatch hp
 | cons q r ih=>
  rw [List.map_cons,List.nodup_cons] at nd
  intro p hp e
  rcases List.mem_cons.mp hp with rfl | hq
  ·rcases List.mem_cons.mp ht with h | h
   ·exact h.symm
   ·exact absurd (e ▸ List.mem_map_of_mem h) nd.1
  ·rcases List.mem_cons.mp ht with h | h
   ·subst h
    exact absurd (e ▸ List.mem_map_of_mem hq) nd.1
   ·exact ih nd.2 h p hq e
section
variable {P:Program}{w:World}{K:Frag}{mg:Str→Option Value}{base:Heap}{sp:Sp}{f:Addr}{fd:FuncData}{ps:List Str}{k:Nat}
theorem ZK {x:Str}{params:Arguments}{body:List Stmt}{scope:Scope}{dvs:List V}{kws:List (Str×V)}{N:List Str}(ef:f=He.fAd K (x,none)) (F:FunD K x x params body scope dvs kws f fd) (S:FnScope N ps scope) (len:∀vs H Q E,sp vs H Q E→vs.length=ps.length)
  (hb:∀(cdv:Value) (A:Around) (outer:List Env) (s:Shared) (H:Hp) (vs:List V) (Q:VK) (E:XK),cdv = .ref (He.cT K (x,none)).1→RoomG k (A.deeper (envOfC x scope s.heap.objs.size f cdv))→sp vs H Q E →
   ∃t,PSs (cxOf (L2.CX P w) P w K mg base N x scope f cdv A outer s H E) body t∧t { nx:=fun _ H'=>Q .non H',rt:=Q} (L2.start N vs) H):FnG P w K mg base (k+1) f fd ps sp:=by
 subst ef
 obtain ⟨oc,od,dV,kV,doc,pm,an,cdv,ct,osl,rfl,lk,hcd,_,_⟩:=F.ex
 obtain ⟨c,ec⟩:=He.codeIn_ref hcd
 have e2:He.codeOf K (x,none)=c:=He.codeOf_eq lk ec
 have hC:cdv = .ref (He.cT K (x,none)).1:=by
  rw [ec]
  exact congrArg Value.ref e2.symm
 refine ⟨len,fun A outer s H args us vs Q E rg e0 bd rv q=> ?_⟩
 obtain ⟨t,pt,ht⟩:=hb cdv A outer s H vs Q E hC (rg.deeper _) q
 exact LamX.run_ofS lk hcd S rg.room e0 bd rv (len vs H Q E q) fun _=>⟨t,pt,ht⟩
end
variable {G:Gd}
section
variable {X:Cx}{Wx:WX}{a b:Expr}{ma mb:bJ D}{la lb:bJ (List D)}{pos:Pos}{i j:Nat}{x y:Str}{px py pt:Pos}{kt:Nat}{k2:Nat}{pt2:Pos}
theorem X6 (hc:X.calm=true) (hN:X.N.Nodup) (ha:SL G X Wx a la) (hb:SL G X Wx b lb) (hi:X.N[i]?=some x:=by rfl) (hj:X.N[j]?=some y:=by rfl) (hij:i≠j:=by decide)
  (hx:X.env.scope.names.lookup x=some .local:=by rfl) (hy:X.env.scope.names.lookup y=some .local:=by rfl)
  (hw:swappedStores [.Tuple [.Name x px,.Name y py] kt pt] (.Tuple [a,b] k2 pt2) X.env=pure (some [x,y]):=by rfl)
  (hs:swapsWithSole [.Tuple [.Name x px,.Name y py] kt pt] (.Tuple [a,b] k2 pt2) pos.line X.env=pure false:=by rfl) (h1:starEach [a,b] X.env=(false,eval a X.env)::starEach [b] X.env:=by rfl) (h2:starEach [b] X.env=(false,eval b X.env)::starEach [] X.env:=by rfl) :
  SS G X Wx (.Assign [.Tuple [.Name x px,.Name y py] kt pt] (.Tuple [a,b] k2 pt2) pos) (fun ls=>bnd (la ls) fun ds=>bnd (lb ls) fun es=>ret (.nx ((ls.set i (.ow ds)).set j (.ow es)))):=by
 obtain ⟨ta,pa,ha⟩:=ha.ex
 obtain ⟨tb,pb,hb⟩:=hb.ex
 refine ⟨_,ps_par hc hN hi hj hij hx hy (pa_cons pa (pa_cons pb pa_nil h2) h1) hw hs,fun W B0 H0 σ B H ls s D g w sm h=> ?_⟩
 refine ha W H0 σ B H ls s _ g.kn w sm (h.bindL g fun ds s' p vs B1 H1 g1 g2 w1 hn nv hbp hp r1 h1=> ?_)
 refine hb W H0 σ B1 H1 ls s' _ g1.kn w1 (sm.grow g1) (h1.bindL g2 fun es s2 p2 vs2 B2 H2 g3 g4 w2 hn2 nv2 hbp2 hpp2 r2 h3=> ?_)
 have h0:H0 p=none:=by
  exact g.nn nv hn
 have h02:H0 p2=none:=by
  exact g2.nn nv2 hn2
 have hp2:H2 p=some (.lst vs):=g3.hh p _ nv (.none hbp) hp
 have hb2:B2 p=none:=by rw [g3.nw p _ hp rfl];exact hbp
 have ne:p≠p2:=fun z=>by rw [z,hn2] at hp;cases hp
 refine ⟨_,_,rfl,h3 _ B2 H2 g4 w2 ((((sm.grow g1).grow g3).Kw nv h0 hp2 hb2 (r1.mono g3.bb) (fun j x ej ox=>sm.fresh hn j x ej ox)).Kw nv2 h02 hpp2 hbp2 r2 (fun k es ek ok=> ?_))⟩
 rcases fu ek with ⟨ki,z,hlt⟩ | ⟨nk,ek⟩
 ·subst ki
  rw [List.getElem?_set_self (by rw [sm.len];exact hlt)]
  exact fun q=>ne (by cases q;rfl)
 ·rw [List.getElem?_set_ne (Ne.symm nk)]
  exact (sm.grow g1).fresh hn2 k es ek ok
end
end PV
namespace PV
open PySem PySem.W PySem.Calls PyProof.Rows L2
variable {G:Gd}
inductive DvK (K:Frag) (H:Hp):List (List Key×V)→List (List Key×D)→Prop
 | nil:DvK K H [] []
 | cons {k:List Key}{v:V}{d:D}{kvs:List (List Key×V)}{lvs:List (List Key×D)}:Dv K H v d→DvK K H kvs lvs→DvK K H ((k,v)::kvs) ((k,d)::lvs)
theorem DvK.of {K:Frag}{H:Hp}:∀{ks:List (List Key)}{vs:List V}{ds:List D},ks.length=vs.length→DvL K H vs ds→DvK K H (ks.zip vs) (ks.zip ds)
 | [],[],_,_,.nil=> .nil
 | _::_,_::_,_,l,.cons a r=> .cons a (DvK.of (by simpa using l) r)
theorem DvK.zip {K:Frag}{H:Hp}:∀{kvs:List (List Key×V)}{lvs:List (List Key×D)},DvK K H kvs lvs→∃(ks:List (List Key)) (vs:List V) (ds:List D),kvs=ks.zip vs∧lvs=ks.zip ds∧ks.length=vs.length∧DvL K H vs ds
 | _,_,.nil=>⟨[],[],[],rfl,rfl,rfl,.nil⟩
 | _,_,.cons (k:=k) (v:=v) (d:=d) a r=>by
  obtain ⟨ks,vs,ds,rfl,rfl,l,q⟩:=r.zip
  exact ⟨k::ks,v::vs,d::ds,rfl,rfl,by simp [l],.cons a q⟩
theorem DvK.app {K:Frag}{H:Hp}{k:List Key}{v:V}{d:D}(q:Dv K H v d):∀{kvs:List (List Key×V)}{lvs:List (List Key×D)},DvK K H kvs lvs→DvK K H (kvs++[(k,v)]) (lvs++[(k,d)])
 | _,_,.nil=> .cons q .nil
 | _,_,.cons a r=> .cons a (DvK.app q r)
def putD (lvs:List (List Key×D)) (k:List Key) (d:D):List (List Key×D):=
 if (lvs.any fun kv=>decide (kv.1=k))=true then lvs.map (fun kv=>if kv.1=k then (kv.1,d) else kv) else lvs++[(k,d)]
theorem DvK.any {K:Frag}{H:Hp}(k:List Key):∀{kvs:List (List Key×V)}{lvs:List (List Key×D)},DvK K H kvs lvs→(kvs.any fun kv=>decide (kv.1=k))=(lvs.any fun kv=>decide (kv.1=k))
 | _,_,.nil=>rfl
 | _,_,.cons a r=>by rw [List.any_cons,List.any_cons,DvK.any k r]
theorem DvK.rep {K:Frag}{H:Hp}{k:List Key}{v:V}{d:D}(q:Dv K H v d):∀{kvs:List (List Key×V)}{lvs:List (List Key×D)},DvK K H kvs lvs→DvK K H (kvs.map fun kv=>if kv.1=k then (kv.1,v) else kv) (lvs.map fun kv=>if kv.1=k then (kv.1,d) else kv)
 | _,_,.nil=> .nil
 | _,_,.cons (k:=j) a r=>by
  rw [List.map_cons,List.map_cons]
  by_cases e:j=k
  ·rw [if_pos e,if_pos e]
   exact .cons q (DvK.rep q r)
  ·rw [if_neg e,if_neg e]
   exact .cons a (DvK.rep q r)
theorem DvK.put {K:Frag}{H:Hp}{k:List Key}{v:V}{d:D}{kvs:List (List Key×V)}{lvs:List (List Key×D)}(r:DvK K H kvs lvs) (q:Dv K H v d):DvK K H (putK kvs k v) (putD lvs k d):=by
 unfold putK putD
 rw [r.any k]
 split
 ·exact r.rep q
 ·exact r.app q
theorem DvK.len {K:Frag}{H:Hp}:∀{kvs:List (List Key×V)}{lvs:List (List Key×D)},DvK K H kvs lvs→kvs.length=lvs.length
 | _,_,.nil=>rfl
 | _,_,.cons _ r=>by simp [r.len]
theorem DvK.mono {K:Frag}{H H':Hp}(e:Sub H H'):∀{kvs:List (List Key×V)}{lvs:List (List Key×D)},DvK K H kvs lvs→DvK K H' kvs lvs
 | _,_,.nil=> .nil
 | _,_,.cons a r=> .cons (a.mono e) (r.mono e)
section
variable {W:Wd}{K:Frag}{H0 B H:Hp}{σ:L2.St}{ls:List Sl}{i:Nat}{p:Addr}{kvs:List (List Key×V)}{lvs:List (List Key×D)}
theorem Ja.off {B':Hp}{o:HO}{x:Sl}{ov:Option V}(hs:Sub B B') (hB:∀a,a≠p→B' a=B a) (ne:x.hold=true→ov≠some (.ref p)) (h:Ja G W K H0 B H ov x):Ja G W K H0 B' (upd H p o) ov x:=by
 cases x with
 | un=>trivial
 | cl=>exact h
 | va d=>
  obtain ⟨v,e,r⟩:=h
  exact ⟨v,e,r.mono hs⟩
 | ow ds=>
  obtain ⟨q,vs,e,nv,h0,hp,hb,r⟩:=h
  have n:q≠p:=fun z=>ne rfl (by rw [e,z])
  exact ⟨q,vs,e,nv,h0,by rw [upd_ne n];exact hp,by rw [hB q n];exact hb,r.mono hs⟩
 | od kvs=>
  obtain ⟨q,ks,vs,ds,e,nv,h0,hp,hb,l,r,z⟩:=h
  have n:q≠p:=fun z=>ne rfl (by rw [e,z])
  exact ⟨q,ks,vs,ds,e,nv,h0,by rw [upd_ne n];exact hp,by rw [hB q n];exact hb,l,r.mono hs,z⟩
 | oi kvs=>
  obtain ⟨q,ks,vs,ds,e,nv,h0,hp,hb,l,r,z⟩:=h
  have n:q≠p:=fun z=>ne rfl (by rw [e,z])
  exact ⟨q,ks,vs,ds,e,nv,h0,by rw [upd_ne n];exact hp,by rw [hB q n];exact hb,l,r.mono hs,z⟩
 | on kvs=>
  obtain ⟨q,es,ds,e,nv,h0,hp,hb,l,r,z⟩:=h
  have n:q≠p:=fun z=>ne rfl (by rw [e,z])
  exact ⟨q,es,ds,e,nv,h0,by rw [upd_ne n];exact hp,by rw [hB q n];exact hb,l.mono fun _ _=>hs _ _,r.mono hs,z⟩
 | bo d=>
  obtain ⟨q,u,e,nv,hp,hb,r⟩:=h
  have n:q≠p:=fun z=>ne rfl (by rw [e,z])
  exact ⟨q,u,e,nv,by rw [upd_ne n];exact hp,hb.imp (fun hb=>by rw [hB q n];exact hb) (fun ⟨hb,z⟩=>⟨hs _ _ hb,z.mono hs⟩),r.mono hs⟩
 | bz d=>
  obtain ⟨q,u,e,nv,hp,hb,r⟩:=h
  have n:q≠p:=fun z=>ne rfl (by rw [e,z])
  exact ⟨q,u,e,nv,by rw [upd_ne n];exact hp,hb.imp (fun hb=>by rw [hB q n];exact hb) (fun ⟨hb,z⟩=>⟨hs _ _ hb,z.mono hs⟩),r.1.mono hs,r.2⟩
end
variable {G:Gd}
theorem Wd.ok.nv {W:Wd}{s:DS}{H:Hp}{p:Addr}(w:W.ok s B H) (h:H p=none):¬W.gq p:=fun v=>by
 obtain ⟨u,e⟩:=w.dom v
 rw [e] at h
 cases h
variable {G:Gd}
section
variable {X:Cx}{Wx:WX}{e:Expr}{K:Frag}
def ad3 (G:Gd) (K:PySem.W.Frag) (mi:bJ (List D)) (t:TI):Prop:=∀(W:Wd) (H0:Hp) (σ:L2.St) (B H:Hp) (ls:List Sl) (s:DS) (R:It→Hp→Prop),Kn W B H→W.ok s B H→Sm G W K H0 B H σ ls→aaK false W K B H (mi ls s) R (fun c d H'=>W0 c d σ H')→t σ H R
def allI (G:Gd) (K:PySem.W.Frag) (mi:bJ (List D)):TI:=fun σ H R=>∀t,ad3 G K mi t→t σ H R
def Tg (H:Hp) (p:Addr):Hp:=fun a=>if a=p then none else H a
theorem xJ {H:Hp}{p a:Addr}(h:a≠p):Tg H p a=H a:=if_neg h
theorem Fz.cut {W:Wd}{H H':Hp}{p:Addr}{u:HO}(h:Fz W (Tg H p) H') (e:H p=some u) (n:u.fz=false):Fz W H H':=fun a o v f ea=>h a o v f (by
 have:a≠p:=fun z=>by rw [z,e] at ea;cases ea;rw [n] at f;cases f
 rw [xJ this];exact ea)
theorem YT {H:Hp}{p:Addr}:Sub (Tg H p) H:=fun a o e=>by
 unfold Tg at e
 split at e
 ·cases e
 ·exact e
theorem Gr.cut {W:Wd}{B H:Hp}{p:Addr}(k:Kn W B H):Gr W B (Tg H p) B H:=⟨k,Sub.refl _,fun a o _ _ e=>YT a o e,fun _ _ _ _=>rfl⟩
theorem Sm.cut {W:Wd}{H0 B H:Hp}{σ:L2.St}{ls:List Sl}{p:Addr}{us:List V}(sm:Sm G W K H0 B H σ ls) (hp:H p=some (.lst us)) (hb:B p=none) (ne:∀(j:Nat) (x:Sl),ls[j]?=some x→x.hold=true→σ[j]?≠some (some (.ref p))):Sm G W K H0 B (Tg H p) σ ls:=by
 refine ⟨sm.len,fun j x e=> ?_,sm.dj,G.mono (Sub.refl _) (fun a q n nt e=>⟨nt,?_⟩) sm.gd.1,sm.gd.2⟩
 ·obtain ⟨ov,e1,q⟩:=sm.sl j x e
  refine ⟨ov,e1,?_⟩
  cases x with
  | un=>trivial
  | cl=>exact q
  | va d=>exact q
  | ow ds=>
   obtain ⟨p',vs,rfl,nv,h0,hp',hb',r⟩:=q
   have n:p'≠p:=fun z=>ne j _ e rfl (by rw [e1,z])
   exact ⟨p',vs,rfl,nv,h0,by rw [xJ n];exact hp',hb',r⟩
  | od kvs=>
   obtain ⟨p',ks,vs,ds,rfl,nv,h0,hp',hb',r⟩:=q
   have n:p'≠p:=fun z=>ne j _ e rfl (by rw [e1,z])
   exact ⟨p',ks,vs,ds,rfl,nv,h0,by rw [xJ n];exact hp',hb',r⟩
  | oi kvs=>
   obtain ⟨p',ks,vs,ds,rfl,nv,h0,hp',hb',r⟩:=q
   have n:p'≠p:=fun z=>ne j _ e rfl (by rw [e1,z])
   exact ⟨p',ks,vs,ds,rfl,nv,h0,by rw [xJ n];exact hp',hb',r⟩
  | on kvs=>
   obtain ⟨p',es,ds,rfl,nv,h0,hp',hb',r⟩:=q
   have n:p'≠p:=fun z=>ne j _ e rfl (by rw [e1,z])
   exact ⟨p',es,ds,rfl,nv,h0,by rw [xJ n];exact hp',hb',r⟩
  | bo d=>
   obtain ⟨p',u,rfl,nv,hp',hb',r⟩:=q
   have n:p'≠p:=fun z=>ne j _ e rfl (by rw [e1,z])
   exact ⟨p',u,rfl,nv,by rw [xJ n];exact hp',hb',r⟩
  | bz d=>
   obtain ⟨p',u,rfl,nv,hp',hb',r⟩:=q
   have n:p'≠p:=fun z=>ne j _ e rfl (by rw [e1,z])
   exact ⟨p',u,rfl,nv,by rw [xJ n];exact hp',hb',r⟩
 ·rw [xJ (fun z=>by rw [z,hp] at e;unfold LamX.CodeO at e;cases e)]
  exact e
theorem PI.imp {tg:Expr}{t t':TI}(h:PI X tg e t) (q:∀σ H R,t' σ H R→t σ H R):PI X tg e t':=⟨fun pins s σ H R I z=>h.run pins s σ H R I (q σ H R z)⟩
theorem SI.all {tg:Expr}{mi:bJ (List D)}(h:SI G X W0 false tg e mi):PI X tg e (allI G X.K mi):=by
 obtain ⟨t,pt,ht⟩:=h.ex
 exact PI.imp pt fun σ H R z=>z t ht
end
end PV
namespace L2
open PySem PySem.Spec PyProof.Rows
end L2
namespace PV
open PySem PySem.W PySem.Calls PyProof.Rows L2
variable {G:Gd}
inductive DvG {κ:Type}(K:Frag) (H:Hp):List (κ×V)→List (κ×D)→Prop
 | nil:DvG K H [] []
 | cons {k:κ}{v:V}{d:D}{kvs:List (κ×V)}{lvs:List (κ×D)}:Dv K H v d→DvG K H kvs lvs→DvG K H ((k,v)::kvs) ((k,d)::lvs)
section
variable {κ:Type}{K:Frag}{H H':Hp}
theorem DvG.zip:∀{kvs:List (κ×V)}{lvs:List (κ×D)},DvG K H kvs lvs→∃(ks:List κ) (vs:List V) (ds:List D),kvs=ks.zip vs∧lvs=ks.zip ds∧ks.length=vs.length∧DvL K H vs ds
 | _,_,.nil=>⟨[],[],[],rfl,rfl,rfl,.nil⟩
 | _,_,.cons (k:=k) (v:=v) (d:=d) a r=>by
  obtain ⟨ks,vs,ds,rfl,rfl,l,q⟩:=r.zip
  exact ⟨k::ks,v::vs,d::ds,rfl,rfl,by simp [l],.cons a q⟩
theorem DvG.of:∀{ks:List κ}{vs:List V}{ds:List D},ks.length=vs.length→DvL K H vs ds→DvG K H (ks.zip vs) (ks.zip ds)
 | [],[],_,_,.nil=> .nil
 | _::_,_::_,_,l,.cons a r=> .cons a (DvG.of (by simpa using l) r)
theorem DvG.len:∀{kvs:List (κ×V)}{lvs:List (κ×D)},DvG K H kvs lvs→kvs.length=lvs.length
 | _,_,.nil=>rfl
 | _,_,.cons _ r=>by simp [r.len]
theorem DvG.mono (e:Sub H H'):∀{kvs:List (κ×V)}{lvs:List (κ×D)},DvG K H kvs lvs→DvG K H' kvs lvs
 | _,_,.nil=> .nil
 | _,_,.cons a r=> .cons (a.mono e) (r.mono e)
variable [DecidableEq κ]
def Yy (lvs:List (κ×D)) (k:κ) (d:D):List (κ×D):=
 if (lvs.any fun kv=>decide (kv.1=k))=true then lvs.map (fun kv=>if kv.1=k then (kv.1,d) else kv) else lvs++[(k,d)]
theorem DvG.any (k:κ):∀{kvs:List (κ×V)}{lvs:List (κ×D)},DvG K H kvs lvs→(kvs.any fun kv=>decide (kv.1=k))=(lvs.any fun kv=>decide (kv.1=k))
 | _,_,.nil=>rfl
 | _,_,.cons a r=>by rw [List.any_cons,List.any_cons,DvG.any k r]
theorem DvG.rep {k:κ}{v:V}{d:D}(q:Dv K H v d):∀{kvs:List (κ×V)}{lvs:List (κ×D)},DvG K H kvs lvs→DvG K H (kvs.map fun kv=>if kv.1=k then (kv.1,v) else kv) (lvs.map fun kv=>if kv.1=k then (kv.1,d) else kv)
 | _,_,.nil=> .nil
 | _,_,.cons (k:=j) a r=>by
  rw [List.map_cons,List.map_cons]
  by_cases e:j=k
  ·rw [if_pos e,if_pos e]
   exact .cons q (DvG.rep q r)
  ·rw [if_neg e,if_neg e]
   exact .cons a (DvG.rep q r)
theorem DvG.app {k:κ}{v:V}{d:D}(q:Dv K H v d):∀{kvs:List (κ×V)}{lvs:List (κ×D)},DvG K H kvs lvs→DvG K H (kvs++[(k,v)]) (lvs++[(k,d)])
 | _,_,.nil=> .cons q .nil
 | _,_,.cons a r=> .cons a (DvG.app q r)
theorem DvG.put {k:κ}{v:V}{d:D}{kvs:List (κ×V)}{lvs:List (κ×D)}(r:DvG K H kvs lvs) (q:Dv K H v d):DvG K H (putK kvs k v) (Yy lvs k d):=by
 unfold putK Yy
 rw [r.any k]
 split
 ·exact r.rep q
 ·exact r.app q
end
theorem DvG.k {K:Frag}{H:Hp}:∀{kvs:List (List Key×V)}{lvs:List (List Key×D)},DvG K H kvs lvs→DvK K H kvs lvs
 | _,_,.nil=> .nil
 | _,_,.cons a r=> .cons a r.k
theorem DvK.g {K:Frag}{H:Hp}:∀{kvs:List (List Key×V)}{lvs:List (List Key×D)},DvK K H kvs lvs→DvG K H kvs lvs
 | _,_,.nil=> .nil
 | _,_,.cons a r=> .cons a r.g
structure Kd (κ:Type) [DecidableEq κ] where
 ho:List (κ×V)→HO
 un:D→Option κ
 dd:List (κ×D)→D
 h0:ho [] = .dK []∨ho [] = .dT []
 mu:∀kvs,Mut (some (ho kvs))
 nc:∀kvs a q,ho kvs≠LamX.CodeO a q
 nt:∀kvs a,ho kvs ≠ .tbl a
 im:∀kvs,(ho kvs).Yk=false
 nf:∀kvs,(ho kvs).fz=false
 put:∀{K:Frag}{W:Wd}{B H:Hp}{a:Addr}{y v:V}{kd:D}{k:κ}{kvs:List (κ×V)},un kd=some k→Dv K B y kd→Kn W B H→H a=some (ho kvs)→kvs.length<sizeLine→DPut H a y v (upd H a (ho (putK kvs k v)))
 fr:∀{K:Frag}{H:Hp}{a:Addr}{od:Obj}{kvs:List (κ×V)}{lvs:List (κ×D)},H a=some (.frz od (ho kvs))→DvG K H kvs lvs→Dv K H (.ref a) (dd lvs)
section
variable {κ:Type} [DecidableEq κ] {kd:Kd κ}{W:Wd}{K:Frag}{B H B1 H1:Hp}{Q:VK}{E:XK}
def aaG (kd:Kd κ) (W:Wd) (K:Frag) (B H:Hp) (r:Res (List (κ×D))) (Q:VK) (E:XK):Prop:=match r with
 | .ok lvs s'=>∀(p:Addr) (kvs:List (κ×V)) (B' H':Hp),Gr W B H B' H'→W.ok s' B' H'→H p=none→¬W.gq p→B' p=none→H' p=some (kd.ho kvs)→DvG K B' kvs lvs→Q (.ref p) H'
 | .exc C fs s'=>XW W K B H C fs s' E
 | .stuck=>False
theorem aaG.grow {r:Res (List (κ×D))}(g:Gr W B H B1 H1) (h:aaG kd W K B H r Q E):aaG kd W K B1 H1 r Q E:=by
 cases r with
 | ok d s'=>
  refine fun p vs B' H' g' w hn nv hb hp r=>h p vs B' H' (g.trans g') w ?_ nv hb hp r
  exact g.nn nv hn
 | exc C fs s'=>exact fun od B' H' g' w x=>h od B' H' (g.trans g') w x
 | stuck=>exact h
end
end PV
namespace PV
open PySem L2
variable {G:Gd}
section
variable {W:Wd}{K:PySem.W.Frag}{B H B0 H0:Hp}{s:DS}{p:Addr}{i:Nat}
theorem Gr.tok {u:HO}(g:Gr W B0 H0 B H) (nv:¬W.gq p) (h0:H0 p=none) (hb:B p=none) (hp:H p=some u) (im:u.Yk=false:=by rfl):Gr W B0 H0 (upd B p (mD i)) H:=by
 refine ⟨fun a o z=> ?_,g.bb.trans (bh hb),g.hx,fun a o z m=> ?_⟩
 ·by_cases ha:a=p
  ·subst ha
   rw [upd_same] at z
   cases z
   exact ⟨nv,Or.inr ⟨rfl,u,hp,im⟩⟩
  ·rw [upd_ne ha] at z
   exact g.kn a o z
 ·rw [upd_ne (ne_of_none z h0)]
  exact g.nw a o z m
def DS.push (s:DS) (t:Th):DS:={ s with objs:=s.objs++[t]}
def DS.put (s:DS) (i:Nat) (t:Th):DS:={ s with objs:=s.objs.set i t}
theorem Wd.ok.push {t:Th}(w:W.ok s B H) (nv:¬W.gq p) (hb:B p=none) (so:Ek W B H p t):W.ok (s.push t) (upd B p (mD s.objs.length)) H:=by
 have hs:=bh (o:=mD s.objs.length) hb
 have nx:∀q,B q≠some (mD s.objs.length):=fun q z=>by
  obtain ⟨j,e,hj⟩:=w.st_.tk q _ z rfl
  rw [yI e] at hj
  exact absurd hj (Nat.lt_irrefl _)
 refine ⟨fun q hq=>let z:=w.dr q hq;⟨z.m,z.c,z.g,z.ne⟩,w.tb,w.at_,fun i o e=> ?_,fun a b i x y=> ?_,fun a o x g=> ?_⟩
 ·have e:(s.objs++[t])[i]?=some o:=e
  by_cases hi:i<s.objs.length
  ·rw [List.getElem?_append_left hi] at e
   obtain ⟨q,h1,h2,h3⟩:=w.st_.at_ i o e
   exact ⟨q,hs q _ h1,h2,h3.up hs fun _ z=>z⟩
  ·have hi2:i=s.objs.length:=by
    have:=(List.getElem?_eq_some_iff.mp e).1
    simp at this
    omega
   subst hi2
   rw [List.getElem?_append_right (Nat.le_refl _)] at e
   simp at e
   subst e
   exact ⟨p,upd_same,nv,so.up hs fun _ z=>z⟩
 ·by_cases ha:a=p
  ·by_cases hb':b=p
   ·rw [ha,hb']
   ·rw [ha,upd_same] at x
    rw [upd_ne hb'] at y
    rw [←yI (Option.some.inj x)] at y
    exact absurd y (nx b)
  ·rw [upd_ne ha] at x
   by_cases hb':b=p
   ·rw [hb',upd_same] at y
    rw [←yI (Option.some.inj y)] at x
    exact absurd x (nx a)
   ·rw [upd_ne hb'] at y
    exact w.st_.one a b i x y
 ·by_cases ha:a=p
  ·rw [ha,upd_same] at x
   exact ⟨_,(Option.some.inj x).symm,by show _<(s.objs++[t]).length;simp⟩
  ·rw [upd_ne ha] at x
   obtain ⟨j,e,hj⟩:=w.st_.tk a o x g
   exact ⟨j,e,by show _<(s.objs++[t]).length;simp;omega⟩
theorem Wd.ok.thing {v:V}{t:Th}(w:W.ok s B H) (r:Dv K B v (.sref i)) (e:s.objs[i]?=some t):∃p,v = .ref p∧B p=some (mD i)∧¬W.gq p∧Ek W B H p t:=by
 cases r with
 | @sref a _ h=>
  obtain ⟨q,h1,h2,h3⟩:=w.st_.at_ i t e
  obtain rfl:=w.st_.one q a i h1 h
  exact ⟨q,rfl,h1,h2,h3⟩
theorem Gr.V8 {u o0:HO}(k:Kn W B H) (hb:B p=some (mD i)) (hp:H p=some o0) (nf:o0.fz=false:=by rfl) (im:u.Yk=false:=by rfl):Gr W B H B (upd H p u):=by
 refine ⟨fun a o z=> ?_,Sub.refl _,fun a o nv nt z=> ?_,fun _ _ _ _=>rfl⟩
 ·by_cases ha:a=p
  ·subst ha
   rw [hb] at z
   cases z
   exact ⟨(k a _ hb).1,Or.inr ⟨rfl,u,upd_same,im⟩⟩
  ·exact ⟨(k a o z).1,(k a o z).2.off ha⟩
 ·by_cases ha:a=p
  ·subst ha
   rcases nt with nt | nt
   ·exact absurd (show true=false from nt _ hb) (by decide)
   ·rw [hp] at z
    cases z
    rw [nf] at nt
    cases nt
  ·rw [upd_ne ha];exact z
theorem Wd.ok.V8 {o u:HO}{t:Th}(w:W.ok s B H) (k:Kn W B H) (hb:B p=some (mD i)) (hp:H p=some o) (nc:∀a q,o≠LamX.CodeO a q) (so:Ek W B (upd H p u) p t):W.ok (s.put i t) B (upd H p u):=by
 have nv:¬W.gq p:=(k p _ hb).1
 have nev:∀{a:Addr},W.gq a→a≠p:=fun v z=>nv (z ▸ v)
 refine ⟨fun q hq=> ?_,fun t ht=> ?_,w.at_,fun j o' e=> ?_,w.st_.one,fun a o' e g=> ?_⟩
 ·have z:=w.dr q hq
  refine ⟨?_,?_,?_,z.ne⟩
  ·rw [upd_ne (nev (Or.inl ⟨q,hq,Or.inl rfl⟩))]
   exact z.m
  ·rw [upd_ne (nev (Or.inl ⟨q,hq,Or.inr (Or.inl rfl)⟩))]
   exact z.c
  ·rw [upd_ne (nev (Or.inl ⟨q,hq,Or.inr (Or.inr rfl)⟩))]
   exact z.g
 ·obtain ⟨ps,h1,h2,h3⟩:=w.tb t ht
  refine ⟨ps,?_,h2,fun pos cv hc=> ?_⟩
  ·rw [upd_ne (nev (Or.inr ⟨t,ht,rfl⟩))]
   exact h1
  ·obtain ⟨c,e1,e2⟩:=h3 pos cv hc
   refine ⟨c,e1,?_⟩
   rw [upd_ne fun z=> ?_]
   ·exact e2
   ·subst z
    rw [hp] at e2
    exact nc _ _ (Option.some.inj e2)
 ·have e:(s.objs.set i t)[j]?=some o':=e
  rcases fu e with ⟨rfl,rfl,hlt⟩ | ⟨nj,e⟩
  ·exact ⟨p,hb,nv,so⟩
  ·obtain ⟨q,h1,h2,h3⟩:=w.st_.at_ j o' e
   have nq:q≠p:=fun z=>by
    rw [z,hb] at h1
    exact nj (yI (Option.some.inj h1)).symm
   exact ⟨q,h1,h2,h3.up (Sub.refl _) fun x y=>by rw [upd_ne nq];exact y⟩
 ·obtain ⟨j,e1,hj⟩:=w.st_.tk a o' e g
  exact ⟨j,e1,by show _<(s.objs.set i t).length;simpa using hj⟩
end
def acG (t:Th):M D:=fun s=> .ok (.sref s.objs.length) (s.push t)
section
variable {X:Cx}{Wx:WX}{e:Expr}
theorem SL.st {m:bJ (List D)}(h:SL G X Wx e m):SE G X Wx e (fun ls=>bnd (m ls) fun ds=>acG (.lst ds)):=by
 obtain ⟨t,p,h⟩:=h.ex
 refine ⟨t,p,fun W H0 σ B H ls s Q k w sm q=>h W H0 σ B H ls s Q k w sm ?_⟩
 cases e:m ls s with
 | ok ds s'=>
  rw [aP e] at q
  intro p vs B' H' g w' hn nv hb hp r
  exact q (.ref p) _ H' (g.tok nv hn hb hp) (w'.push nv hb ⟨vs,hp,by rw [sm.gd.2.2];exact r⟩) (.sref upd_same)
 | exc C fs s'=>
  rw [aC e] at q
  exact q
 | stuck=>
  rw [aO e] at q
  exact q
end
end PV
namespace PV
open PySem PySem.W PySem.Calls PyProof.Rows L2
variable {G:Gd}
def Br (K:Frag) (C:Addr) (f:Str):Prop:=Cls K C∧NoAttr K C f
def U3 (f:Str):List (Str×D)→Option D
 | []=>none
 | (g,d)::r=>if f=g then some d else U3 f r
theorem Vm {K:Frag}{B:Hp}{f:Str}:∀{ns:List Str}{vs:List V}{ds:List D}{d:D},ns.length=vs.length→DvL K B vs ds→U3 f (ns.zip ds)=some d→∃v,(ns.zip vs).lookup f=some v∧Dv K B v d
 | [],_,_,_,_,_,e=>by simp [U3] at e
 | n::ns,[],[],d,l,.nil,e=>by simp at l
 | n::ns,v::_,d0::_,d,l,.cons a r,e=>by
  rw [List.zip_cons_cons,U3] at e
  rw [List.zip_cons_cons,List.lookup]
  by_cases h:f=n
  ·rw [if_pos h] at e
   cases e
   have hb:(f==n)=true:=beq_iff_eq.mpr h
   rw [hb]
   exact ⟨v,rfl,a⟩
  ·rw [if_neg h] at e
   have hb:(f==n)=false:=beq_eq_false_iff_ne.mpr h
   rw [hb]
   exact Vm (by simpa using l) r e
def ji (Cs:List Addr) (f:Str) (d:D):M D:=fun s=>match d with
 | .sref i=>match s.objs[i]? with
  | some (.ins C fs)=>if C∈Cs then (match U3 f fs with | some d=> .ok d s | none=> .stuck) else .stuck
  | _=> .stuck
 | _=> .stuck
section
variable {X:Cx}{Wx:WX}{e o:Expr}{es:List Expr}{me mo mv:bJ D}{ms:bJ (List D)}{f x m:Str}{pos apos p pos':Pos}{Cs:List Addr}{C:Addr}{k n:Nat}
theorem kY (hc:∀C∈Cs,Br X.K C f) (he:SE G X Wx e me) (hb:attributeBase e f X.env (eval e X.env)=eval e X.env:=by rfl):SE G X Wx (.Attribute e f pos) (fun ls=>bnd (me ls) (ji Cs f)):=by
 obtain ⟨t,pt,ht⟩:=he.ex
 refine ⟨_,pe_fld pt hb,fun W H0 σ B H ls s Q k w sm h=>ht W H0 σ B H ls s _ k w sm (h.bind fun d s1 v B1 H1 g1 w1 r1 h1=> ?_)⟩
 unfold ji at h1
 split at h1
 ·rename_i i
  split at h1
  ·rename_i C fs ei
   split at h1
   ·rename_i hC
    cases el:U3 f fs with
    | none=>rw [el] at h1;exact h1.elim
    | some d2=>
     rw [el] at h1
     obtain ⟨a,rfl,hb,nv,dx,ns,vs,ds,hp,l,r,rfl⟩:=w1.thing r1 ei
     rw [sm.gd.2.2] at r
     obtain ⟨v2,e2,r2⟩:=Vm l r el
     exact ⟨a,C,dx,_,v2,rfl,hp,(hc C hC).1,(hc C hC).2,e2,Ans.bU h1 g1.kn w1 r2⟩
   ·exact h1.elim
  ·exact h1.elim
 ·exact h1.elim
def Jr (f:Str) (v:D):List (Str×D)→List (Str×D)
 | []=>[(f,v)]
 | (g,x)::r=>if g=f then (g,v)::r else (g,x)::Jr f v r
theorem Io {K:Frag}{B:Hp}{f:Str}{v:V}{d:D}(a:Dv K B v d):∀{ns:List Str}{vs:List V}{ds:List D},ns.length=vs.length→DvL K B vs ds →
  ∃(ns':List Str) (vs':List V) (ds':List D),putF f v (ns.zip vs)=ns'.zip vs'∧Jr f d (ns.zip ds)=ns'.zip ds'∧ns'.length=vs'.length∧DvL K B vs' ds'
 | [],[],[],_,.nil=>⟨[f],[v],[d],rfl,rfl,rfl,.cons a .nil⟩
 | [],_::_,_,l,_=>by simp at l
 | n::ns,[],[],l,.nil=>by simp at l
 | n::ns,x::vs,y::ds,l,.cons b r=>by
  rw [List.zip_cons_cons,List.zip_cons_cons]
  unfold putF Jr
  by_cases h:n=f
  ·rw [if_pos h,if_pos h]
   exact ⟨n::ns,v::vs,d::ds,rfl,rfl,by simpa using l,.cons a r⟩
  ·rw [if_neg h,if_neg h]
   obtain ⟨ns',vs',ds',e1,e2,l',r'⟩:=Io (f:=f) a (ns:=ns) (by simpa using l) r
   exact ⟨n::ns',x::vs',y::ds',by rw [e1];rfl,by rw [e2];rfl,by simpa using l',.cons b r'⟩
def Kf (Cs:List Addr) (f:Str) (mv mo:bJ D):MS:=fun ls=>bnd (mv ls) fun d=>bnd (mo ls) fun o=>fun s=>match o with
 | .sref i=>match s.objs[i]? with
  | some (.ins C fs)=>if C∈Cs∧fs.length<1000 then .ok (.nx ls) (s.put i (.ins C (Jr f d fs))) else .stuck
  | _=> .stuck
 | _=> .stuck
theorem Kz (hc:∀C∈Cs,Br X.K C f) (ho:SE G X Wx o mo) (hv:SE G X Wx e mv) (hs:swapsWith e (some (.Attribute o f pos')) pos.line X.env=pure false:=by rfl):SS G X Wx (.Assign [.Attribute o f pos'] e pos) (Kf Cs f mv mo):=by
 obtain ⟨tv,pv,hv⟩:=hv.ex
 obtain ⟨t,pt,ht⟩:=ho.ex
 refine ⟨_,ps_fld pt pv hs,fun W B0 H0 σ B H ls s D g w sm h=> ?_⟩
 refine hv W H0 σ B H ls s _ g.kn w sm (h.bind g fun d s1 v B1 H1 g1 g2 w1 r1 h1=> ?_)
 refine ht W H0 σ B1 H1 ls s1 _ g1.kn w1 (sm.grow g1) (h1.bind g2 fun o s2 x B2 H2 g3 g4 w2 r2 h2=> ?_)
 split at h2
 ·rename_i i
  split at h2
  ·rename_i C fs ei
   split at h2
   ·rename_i hC
    obtain ⟨a,rfl,hb,nv,dx,ns,vs,ds,hp,l,r,rfl⟩:=w2.thing r2 ei
    rw [sm.gd.2.2] at r
    obtain ⟨ns',vs',ds',z1,z2,l',r'⟩:=Io (f:=f) (r1.mono g3.bb) l r
    refine ⟨a,C,dx,_,rfl,hp,(hc C hC.1).1,(hc C hC.1).2,by have:=hC.2;simp [List.length_zip] at this ⊢;have:=r.len;omega,?_⟩
    have gc:=Gr.V8 (u:=HO.ins C dx (putF f v (ns.zip vs))) g4.kn hb hp
    refine h2 σ B2 _ (g4.trans gc) (w2.V8 g4.kn hb hp (fun _ _ z=>by unfold LamX.CodeO at z;cases z) ⟨dx,ns',vs',ds',by rw [upd_same,z1],l',by rw [sm.gd.2.2];exact r',z2⟩) (((sm.grow g1).grow g3).grow gc)
   ·exact (show False from h2).elim
  ·exact (show False from h2).elim
 ·exact (show False from h2).elim
end
variable {G:Gd}
structure CalM (P:Program) (w:World) (K:Frag) (mg:Str→Option Value) (base:Heap) (T:List NdefX.NTab) (C:Addr) (x:Str) (k n:Nat) (m:List D→M D):Prop where
 cls:Cls K C
 ex:∃(f:Addr) (fd:FuncData) (ps:List Str),FnG P w K mg base k f fd ps (Km K T n m)∧Meth K C x f∧Binds K fd ps []
structure DefM (K:Frag) (C:Addr) (x qual:Str) (st:Stmt):Prop where
 ex:∃(f:Addr) (fd:FuncData),FunD K x qual (defArgs st) (defBody st) (defScope st) [] [] f fd∧findIn K (.ref C) x=some (some (.ref f))∧isFn K (.ref f)=true
section
variable {P:Program}{w:World}{K:Frag}{mg:Str→Option Value}{base:Heap}{T:List NdefX.NTab}{x qual:Str}{C:Addr}{st:Stmt}{k:Nat}{N ps:List Str}{mb:MS}
theorem DefM.cal (c:Cls K C) (F:DefM K C x qual st) (S:FnScope N ps (defScope st)) (hl:ps.length≤N.length)
  (hb:∀(kV doc pm:Value) (an:Option Addr) (cdv ct:Value) (us:List Value),us.length=ps.length→bindArgs (fnOf x qual (defArgs st) (defBody st) (defScope st) .none kV doc pm an cdv ct) ⟨us,[]⟩=pure (ps.zip us))
  (body:∀(f:Addr) (cdv:Value) (A:Around) (outer:List Env) (s:Shared) (H:Hp) (E:XK),RoomG k (A.deeper (envOfC qual (defScope st) s.heap.objs.size f cdv))→SSs (G0 T w) (cxOf (L2.CX P w) P w K mg base N qual (defScope st) f cdv A outer s H E) (EW E) (defBody st) mb) :
  CalM P w K mg base T C x (k+1) ps.length (dG N.length mb):=by
 obtain ⟨f,fd,D,g,h⟩:=F.ex
 exact ⟨c,f,fd,ps,aa7 D S hl (body f),⟨g,h,D.kp⟩,D.bindsN hb⟩
end
def bM (C:Addr) (x:Str) (n:Nat) (m:List D→M D) (o:D) (msd:M (List D)):M D:=fun s=>match o with
 | .sref i=>match s.objs[i]? with
  | some (.ins C' fs)=>if C'=C∧U3 x fs=none then bnd msd (fun ds=>aQ n m (.sref i::ds)) s else .stuck
  | _=> .stuck
 | _=> .stuck
theorem Lk {f:Str}:∀{ns:List Str}{vs:List V}{ds:List D},ns.length=vs.length→ns.length=ds.length→U3 f (ns.zip ds)=none→(ns.zip vs).lookup f=none
 | [],_,_,_,_,_=>by simp
 | n::ns,[],_,l,_,_=>by simp at l
 | n::ns,_::_,[],_,l,_=>by simp at l
 | n::ns,v::vs,d::ds,l,l2,e=>by
  rw [List.zip_cons_cons,U3] at e
  rw [List.zip_cons_cons,List.lookup]
  by_cases h:f=n
  ·rw [if_pos h] at e
   cases e
  ·rw [if_neg h] at e
   have hb:(f==n)=false:=beq_eq_false_iff_ne.mpr h
   rw [hb]
   exact Lk (by simpa using l) (by simpa using l2) e
section
variable {X:Cx}{Wx:WX}{e o:Expr}{es:List Expr}{me mo mv:bJ D}{ms:bJ (List D)}{f x:Str}{pos apos p pos':Pos}{Cs:List Addr}{C:Addr}{k n:Nat}{m:List D→M D}
theorem lH {pl:Sem Bool}(F:CalM X.prog X.w X.K X.mg X.base G.tb C x k n m) (hr:RoomG k X.A) (tk:Takes X Wx) (ho:SE G X Wx o mo) (ha:SA G X Wx (e::es) ms)
  (hst:starEach (e::es) X.env=(false,eval e X.env)::starEach es X.env:=by rfl) (hpl:(backTo pos (starEach es X.env)).any (·.1)=false:=by rfl)
  (ht:eval (.Call (.Attribute o x apos) (e::es) [] pos) X.env=(do
   let ov ←eval o X.env
   standAt apos.atName
   let (f,first) ←holding [ov] (getMethod ov x pl)
   callWith pos f first (backTo pos (starEach (e::es) X.env)) (backToKw pos (keywordEach [] X.env))):=by rfl) :
  SE G X Wx (.Call (.Attribute o x apos) (e::es) [] pos) (fun ls=>bnd (mo ls) fun d=>bM C x n m d (ms ls)):=by
 obtain ⟨f,fd,ps,Fn,hm,hb⟩:=F.ex
 obtain ⟨t,pt,hto⟩:=ho.ex
 obtain ⟨ta,pa,hta⟩:=ha.ex
 refine ⟨fun σ H Q=>t σ H fun v H1=>∃a dx fs,v = .ref a∧H1 a=some (.ins C dx fs)∧fs.lookup x=none∧ta σ H1 fun vs H2=>Km X.K G.tb n m (.ref a::vs) H2 Q (fun c d H'=>Wx c d σ H'),⟨fun pins s σ H Q I h=> ?_⟩,fun W H0 σ B H ls s Q k w sm h=> ?_⟩
 ·refine methodCall_KW (pl:=pl) (thn (pt.run pins s σ H _ I h) fun u s1 ⟨v,H1,I1,rx,a,dx,fs,ex,ea,l,q⟩=> ?_) ht
  subst ex
  obtain rfl:u=Value.ref a:=rx
  refine getmeth_ok I1 ea F.cls hm l ?_
  refine callWith_K (first:=[.ref a]) (h₀:=X.base) I.ok.mod.kin hm.kp (thn (pa.run pos pins s1 σ H1 _ I1 q) fun us s2 ⟨vs,H2,I2,r,q2⟩=>⟨I2.kIn,?_⟩) hst hpl
  exact Og (us:= .ref a::us) (vs:= .ref a::vs) Fn hr hb tk I2 (.cons rfl r) q2
 ·refine hto W H0 σ B H ls s _ k w sm (h.bind fun d s1 v B1 H1 g1 w1 r1 h1=> ?_)
  unfold bM at h1
  split at h1
  ·rename_i i
   split at h1
   ·rename_i C' fs ei
    split at h1
    ·rename_i hC
     obtain ⟨rfl,hn⟩:=hC
     obtain ⟨a,rfl,hb,nv,dx,ns,vs,ds,hp,l,r,rfl⟩:=w1.thing r1 ei
     refine ⟨a,dx,_,rfl,hp,Lk l (by rw [l,r.len]) hn,?_⟩
     refine hta W H0 σ B1 H1 ls s1 _ g1.kn w1 (sm.grow g1) ?_
     cases e1:ms ls s1 with
     | stuck=>rw [aO e1] at h1;exact h1
     | exc C fs s'=>rw [aC e1] at h1;exact h1
     | ok ds2 s2=>
      rw [aP e1] at h1
      intro us B2 H2 g2 w2 r2
      have h1:=h1.grow g2
      unfold aQ at h1
      split at h1
      ·rename_i hl
       have rr:DvL X.K B2 (.ref a::us) (.sref i::ds2):= .cons (r1.mono g2.bb) r2
       exact ⟨by rw [rr.len];exact hl,W,B2,s2,_,sm.gd.2,g2.kn,w2,rr,h1⟩
      ·exact h1.elim
    ·exact h1.elim
   ·exact h1.elim
  ·exact h1.elim
end
variable {G:Gd}
structure MkM (P:Program) (w:World) (K:Frag) (mg:Str→Option Value) (base:Heap) (T:List NdefX.NTab) (x:Str) (C:Addr) (k n:Nat) (m:List D→M D):Prop where
 gm:mg x=some (.ref C)
 ex:∃(f:Addr) (fd:FuncData) (ps:List Str),FnG P w K mg base k f fd ps (Km K T n m)∧Mk K C f∧Binds K fd ps []
def Bm (C:Addr) (n:Nat) (m:List D→M D) (ds:List D):M D:=fun s=>if ds.length+1=n then
  (match m (.sref s.objs.length::ds) (s.push (.ins C [])) with
  | .ok .non s'=> .ok (.sref s.objs.length) s'
  | .ok _ _=> .stuck
  | .exc C fs s'=> .exc C fs s'
  | .stuck=> .stuck)
 else .stuck
section
variable {X:Cx}{Wx:WX}{e o:Expr}{es:List Expr}{me mo mv:bJ D}{ms:bJ (List D)}{f x:Str}{pos apos p pos':Pos}{Cs:List Addr}{C:Addr}{k n:Nat}{m:List D→M D}
theorem RoomG.make (r:RoomG (k+1) X.A) (C:Addr) (us:List Value):RoomG k (X.A.under (.builtin "type.__call__" ⟨.ref C::us,[]⟩)):=⟨r.room.make C us [],r.gu⟩
theorem Us {pins:List (Addr×Obj)}{σ:L2.St}{H:Hp}{s:Shared}{Q:VK}{us:List Value}{vs:List V}{g:Addr}{fd:FuncData}{ps:List Str}{sp:Sp}(M:Mk X.K C g) (F:FnG X.prog X.w X.K X.mg X.base k g fd ps sp) (hr:RoomG (k+1) X.A) (hb:Binds X.K fd ps []) (tk:Takes X Wx)
  (I:Inv X pins σ H s) (r:Vals vs us)
  (h:∀x dx,H x=none→H dx=none→dx≠x→sp (.ref x::vs) (upd (upd H dx (.own x)) x (.ins C dx [])) (fun v H2=>v = .non∧Q (.ref x) H2) (fun c d H'=>Wx c d σ H')) :
  wpAny (model X.prog X.w) X.A (call (.ref C) us) (EP X pins σ Q) X.xe s:=by
 have hq:=h (s.heap.objs.size+1) s.heap.objs.size (I.hok.fresh (Nat.le_succ _)) (I.hok.fresh (Nat.le_refl _)) (Nat.ne_of_lt (Nat.lt_succ_self _))
 have I2:=Inv.made (C:=C) I
 have r2:Vals (V.ref (s.heap.objs.size+1)::vs) (Value.ref (s.heap.objs.size+1)::us):= .cons rfl r
 have hl:(Value.ref (s.heap.objs.size+1)::us).length=ps.length:=by
  have e:=Paired.length r2
  rw [←e]
  exact F.len _ _ _ _ hq
 have b:=hb _ (Value.ref (s.heap.objs.size+1)::us) I2.kIn (by simpa using hl)
 rw [List.append_nil] at b
 refine wpAny_call (make_map (f:=g) I.kIn M.makes M.init (beq_iff_eq.mp M.fn) (codeAny_mono (F.run _ X.stack _ _ ⟨Value.ref (s.heap.objs.size+1)::us,[]⟩ (Value.ref (s.heap.objs.size+1)::us) _ _ _ (hr.make C us)
  (I2.env0.make C us []) b r2 hq) fun r s' hq'=> ?_))
 cases r with
 | error e=>exact passAt tk σ pins _ _ e s' I2 hq'
 | ok fl=>
  cases fl with
  | ret u=>
   obtain ⟨v,H',I3,rv,ev,q3⟩:=I2.after hq'
   subst ev
   exact ⟨rv,⟨V.ref (s.heap.objs.size+1),H',I3,rfl,q3⟩⟩
  | next=>exact False.elim hq'
  | brk=>exact False.elim hq'
  | cont=>exact False.elim hq'
theorem Uw {W:Wd}{B H H0:Hp}{s:DS}{ls:List Sl}{σ:L2.St}{Q:VK}{vs:List V}{ds:List D}(k:Kn W B H) (w:W.ok s B H) (sm:Sm G W X.K H0 B H σ ls) (r:DvL X.K B vs ds) (h:Ans W X.K B H (Bm C n m ds s) Q (fun c d H'=>Wx c d σ H')) :
  ∀x dx,H x=none→H dx=none→dx≠x→Km X.K G.tb n m (.ref x::vs) (upd (upd H dx (.own x)) x (.ins C dx [])) (fun v H2=>v = .non∧Q (.ref x) H2) (fun c d H'=>Wx c d σ H'):=by
 intro x dx hx hd ne
 unfold Bm at h
 split at h
 ·rename_i hl
  have hx2:upd H dx (.own x) x=none:=by rw [upd_ne (Ne.symm ne)];exact hx
  have g1:=Gr.lay (o:= .own x) k hd
  have g2:=Gr.lay (o:= .ins C dx []) g1.kn hx2
  have bx:=cA k hx
  have nv:¬W.gq x:=w.nv hx
  have g3:=(g1.trans g2).tok (i:=s.objs.length) nv hx bx upd_same
  have w2:=(w.st (bh (o:= .own x) hd)).st (bh (o:= .ins C dx []) hx2)
  have w3:=w2.push (t:= .ins C []) nv bx ⟨dx,[],[],[],upd_same,rfl,.nil,rfl⟩
  refine ⟨by rw [List.length_cons,r.len];exact hl,W,_,_,.sref s.objs.length::ds,sm.gd.2,g3.kn,w3,.cons (.sref upd_same) (r.mono g3.bb),?_⟩
  cases e1:m (.sref s.objs.length::ds) (s.push (.ins C [])) with
  | stuck=>rw [e1] at h;exact h.elim
  | exc C fs s'=>
   rw [e1] at h
   exact fun od B' H' g w x=>h od B' H' (g3.trans g) w x
  | ok d s'=>
   rw [e1] at h
   cases d with
   | non=>
    intro v B' H' g w r
    cases r with
    | non=>exact ⟨rfl,h (.ref x) B' H' (g3.trans g) w (.sref (g.bb _ _ upd_same))⟩
   | _=>exact (show False from h).elim
 ·exact h.elim
theorem Ly (F:MkM X.prog X.w X.K X.mg X.base G.tb x C k n m) (hr:RoomG (k+1) X.A) (hg:Gl X x) (tk:Takes X Wx) (ha:SA G X Wx (e::es) ms) (hdb:(x==("__debug__" : Str))=false:=by decide)
  (he:starEach (e::es) X.env=(false,eval e X.env)::starEach es X.env:=by rfl) (hpl:(backTo pos (starEach es X.env)).any (·.1)=false:=by rfl) :
  SE G X Wx (.Call (.Name x p) (e::es) [] pos) (fun ls=>bnd (ms ls) (Bm C n m)):=by
 obtain ⟨g,fd,ps,Fn,M,hb⟩:=F.ex
 obtain ⟨t,pt,ht⟩:=ha.ex
 refine ⟨fun σ H Q=>t σ H fun vs H1=>∀x dx,H1 x=none→H1 dx=none→dx≠x→Km X.K G.tb n m (.ref x::vs) (upd (upd H1 dx (.own x)) x (.ins C dx [])) (fun v H2=>v = .non∧Q (.ref x) H2) (fun c d H'=>Wx c d σ H'),⟨fun pins s σ H Q I h=> ?_⟩,fun W H0 σ B H ls s Q k w sm h=> ?_⟩
 ·refine wpAny_Call_Name_kw (ld_glob I hg F.gm ?_ hdb)
  refine callWith_K (h₀:=X.base) I.ok.mod.kin M.kp (thn (pt.run pos pins s σ H _ I h) fun us s1 ⟨vs,H1,I1,r,q⟩=>⟨I1.kIn,?_⟩) he hpl
  exact Us M Fn hr hb tk I1 r q
 ·refine ht W H0 σ B H ls s _ k w sm ?_
  cases e1:ms ls s with
  | stuck=>rw [aO e1] at h;exact h
  | exc C fs s'=>rw [aC e1] at h;exact h
  | ok ds s1=>
   rw [aP e1] at h
   intro vs B1 H1 g1 w1 r1
   exact Uw g1.kn w1 (sm.grow g1) r1 (h.grow g1)
theorem dI {pl:Sem Bool}(F:CalM X.prog X.w X.K X.mg X.base G.tb C x k n m) (hr:RoomG k X.A) (tk:Takes X Wx) (ho:SE G X Wx o mo)
  (ht:eval (.Call (.Attribute o x apos) [] [] pos) X.env=(do
   let ov ←eval o X.env
   standAt apos.atName
   let (f,first) ←holding [ov] (getMethod ov x pl)
   callWith pos f first (backTo pos (starEach [] X.env)) (backToKw pos (keywordEach [] X.env))):=by rfl) :
  SE G X Wx (.Call (.Attribute o x apos) [] [] pos) (fun ls=>bnd (mo ls) fun d=>bM C x n m d (ret [])):=by
 obtain ⟨f,fd,ps,Fn,hm,hb⟩:=F.ex
 obtain ⟨t,pt,hto⟩:=ho.ex
 refine ⟨fun σ H Q=>t σ H fun v H1=>∃a dx fs,v = .ref a∧H1 a=some (.ins C dx fs)∧fs.lookup x=none∧Km X.K G.tb n m [.ref a] H1 Q (fun c d H'=>Wx c d σ H'),⟨fun pins s σ H Q I h=> ?_⟩,fun W H0 σ B H ls s Q k w sm h=> ?_⟩
 ·refine methodCall_KW (pl:=pl) (thn (pt.run pins s σ H _ I h) fun u s1 ⟨v,H1,I1,rx,a,dx,fs,ex,ea,l,q⟩=> ?_) ht
  subst ex
  obtain rfl:u=Value.ref a:=rx
  refine getmeth_ok I1 ea F.cls hm l ?_
  exact callWith_K0 (first:=[.ref a]) I1.kIn hm.kp (Og (us:=[.ref a]) (vs:=[.ref a]) Fn hr hb tk I1 (.cons rfl .nil) q)
 ·refine hto W H0 σ B H ls s _ k w sm (h.bind fun d s1 v B1 H1 g1 w1 r1 h1=> ?_)
  unfold bM at h1
  split at h1
  ·rename_i i
   split at h1
   ·rename_i C' fs ei
    split at h1
    ·rename_i hC
     obtain ⟨rfl,hn⟩:=hC
     obtain ⟨a,rfl,hb,nv,dx,ns,vs,ds,hp,l,r,rfl⟩:=w1.thing r1 ei
     refine ⟨a,dx,_,rfl,hp,Lk l (by rw [l,r.len]) hn,?_⟩
     have h1:Ans W X.K B1 H1 (aQ n m [.sref i] s1) Q (fun c d H'=>Wx c d σ H'):=h1
     unfold aQ at h1
     split at h1
     ·rename_i hl
      have rr:DvL X.K B1 [.ref a] [.sref i]:= .cons r1 .nil
      exact ⟨by rw [rr.len];exact hl,W,B1,s1,_,sm.gd.2,g1.kn,w1,rr,h1⟩
     ·exact h1.elim
    ·exact h1.elim
   ·exact h1.elim
  ·exact h1.elim
end
variable {G:Gd}
def aev (s:DS):D→D
 | .sref i=>match s.objs[i]? with
  | some (.dT kvs)=> .DG kvs
  | some (.dK kvs)=> .Ei kvs
  | some (.lT kvs)=> .DG kvs
  | some (.lK kvs)=> .Ei kvs
  | some (.lst ds)=> .lst ds
  | _=> .sref i
 | d=>d
def stL {α:Type}(op:List D→M α) (xs:List D):M α:=fun s=>op (xs.map (aev s)) s
variable {G:Gd}{T:List NdefX.NTab}
section
variable {W:Wd}{K:Frag}{H0 B H B' H':Hp}{v:V}{d:D}
def BoA (W:Wd) (K:Frag) (B H:Hp) (v:V) (d:D):Prop:=∃(p:Addr) (u:HO),v = .ref p∧¬W.gq p∧H p=some u∧((B p=none∧∀ds,d ≠ .lst ds)∨B p=some u∧Dv K B (.ref p) d)∧BwO K B u d
theorem BoA.grow (g:Gr W B H B' H') (h:BoA W K B H v d):BoA W K B' H' v d:=by
 obtain ⟨p,u,e1,nv,hp,hb,r⟩:=h
 rcases hb with ⟨hb,hl⟩ | ⟨hb,q⟩
 ·exact ⟨p,u,e1,nv,g.hh p _ nv (Nt.none hb) hp,.inl ⟨by rw [g.nw p _ hp r.im];exact hb,hl⟩,r.mono g.bb⟩
 ·exact ⟨p,u,e1,nv,g.hh p _ nv (Nt.val hb r.gh) hp,.inr ⟨g.bb _ _ hb,q.mono g.bb⟩,r.mono g.bb⟩
inductive DmL (W:Wd) (K:Frag) (B H:Hp):List Bool→List V→List D→Prop
 | nil:DmL W K B H [] [] []
 | va {b:List Bool}{v:V}{d:D}{vs:List V}{ds:List D}:Dv K B v d→DmL W K B H b vs ds→DmL W K B H (false::b) (v::vs) (d::ds)
 | bo {b:List Bool}{v:V}{d:D}{vs:List V}{ds:List D}:BoA W K B H v d→DmL W K B H b vs ds→DmL W K B H (true::b) (v::vs) (d::ds)
theorem DmL.grow (g:Gr W B H B' H'):∀{b:List Bool}{vs:List V}{ds:List D},DmL W K B H b vs ds→DmL W K B' H' b vs ds
 | _,_,_,.nil=> .nil
 | _,_,_,.va a r=> .va (a.mono g.bb) (r.grow g)
 | _,_,_,.bo a r=> .bo (a.grow g) (r.grow g)
def slM:Bool→D→Sl
 | true,d=> .bo d
 | false,d=> .va d
def Vo (n:Nat) (mask:List Bool) (ds:List D):List Sl:=List.zipWith slM mask ds++List.replicate (n-ds.length) .un
theorem DmL.len:∀{b:List Bool}{vs:List V}{ds:List D},DmL W K B H b vs ds→vs.length=ds.length∧b.length=ds.length
 | _,_,_,.nil=>⟨rfl,rfl⟩
 | _,_,_,.va _ r=>by simp [r.len.1,r.len.2]
 | _,_,_,.bo _ r=>by simp [r.len.1,r.len.2]
theorem DmL.get:∀{b:List Bool}{vs:List V}{ds:List D}{i:Nat}{x:Sl},DmL W K B H b vs ds→(List.zipWith slM b ds)[i]?=some x→∃v,vs[i]?=some v∧Ja G W K H0 B H (some v) x∧x.own=false
 | _,_,_,_,_,.nil,e=>by simp at e
 | _,_,_,0,x,.va (d:=d) a r,e=>by
  simp at e
  subst e
  exact ⟨_,rfl,⟨_,rfl,a⟩,rfl⟩
 | _,_,_,0,x,.bo (d:=d) a r,e=>by
  simp at e
  subst e
  obtain ⟨p,u,rfl,q⟩:=a
  exact ⟨_,rfl,⟨p,u,rfl,q⟩,rfl⟩
 | _,_,_,i+1,x,.va a r,e=>by
  obtain ⟨v,e1,q⟩:=DmL.get (i:=i) (x:=x) r (by simpa using e)
  exact ⟨v,by simpa using e1,q⟩
 | _,_,_,i+1,x,.bo a r,e=>by
  obtain ⟨v,e1,q⟩:=DmL.get (i:=i) (x:=x) r (by simpa using e)
  exact ⟨v,by simpa using e1,q⟩
theorem DmL.sm {N:List Str}{b:List Bool}{vs:List V}{ds:List D}(r:DmL W K B H b vs ds) (hl:vs.length≤N.length) (gd:G.p W B H∧W.tb=G.tb∧W.fr=K):Sm G W K H0 B H (L2.start N vs) (Vo N.length b ds):=by
 obtain ⟨el,eb⟩:=r.len
 have hz:(List.zipWith slM b ds).length=ds.length:=by simp [eb]
 have un:∀{i:Nat}{x:Sl},(Vo N.length b ds)[i]?=some x→x.own=false:=fun {i x} e=>by
  unfold Vo at e
  by_cases hi:i<ds.length
  ·rw [List.getElem?_append_left (by rw [hz];exact hi)] at e
   exact (r.get (G:=G) (H0:=H0) e).choose_spec.2.2
  ·rw [List.getElem?_append_right (by rw [hz];omega)] at e
   rw [(List.mem_replicate.mp (List.mem_of_getElem? e)).2]
   rfl
 refine ⟨?_,fun i x e=> ?_,fun i j x y p _ e _ o1 _ _=> ?_,gd⟩
 ·simp [L2.start,Vo,el,eb]
 ·unfold Vo at e
  unfold L2.start
  by_cases hi:i<ds.length
  ·rw [List.getElem?_append_left (by rw [hz];exact hi)] at e
   obtain ⟨v,e1,q,_⟩:=r.get e
   refine ⟨some v,?_,q⟩
   rw [List.getElem?_append_left (by simp;omega),List.getElem?_map,e1]
   rfl
  ·rw [List.getElem?_append_right (by rw [hz];omega)] at e
   have hx:x = .un:=(List.mem_replicate.mp (List.mem_of_getElem? e)).2
   subst hx
   have hlt:i<N.length:=by
    have:=(List.getElem?_eq_some_iff.mp e).1
    simp [eb] at this
    omega
   refine ⟨none,?_,trivial⟩
   rw [List.getElem?_append_right (by simp;omega),List.getElem?_replicate,if_pos (by simp;omega)]
 ·rw [un e] at o1
  cases o1
end
def aaT (W:Wd) (K:Frag) (B H:Hp) (b:List Bool) (r:Res (List D)) (Q:List V→Hp→Prop) (E:XK):Prop:=match r with
 | .ok ds s'=>∀(vs:List V) (B' H':Hp),Gr W B H B' H'→W.ok s' B' H'→DmL W K B' H' b vs ds→Q vs H'
 | .exc C fs s'=>XW W K B H C fs s' E
 | .stuck=>False
def boM:D→M D
 | .lst xs=>ret (.lst xs)
 | .DG xs=>ret (.DG xs)
 | .Ei xs=>ret (.Ei xs)
 | _=>stk
theorem BoA.of {W:Wd}{K:Frag}{B H:Hp}{v:V}{d d':D}{s s':DS}(k:Kn W B H) (r:Dv K B v d) (e:boM d s = .ok d' s'):s'=s∧BoA W K B H v d':=by
 unfold boM at e
 split at e
 ·cases e
  cases r with
  | lst hb r=>exact ⟨rfl,_,_,rfl,(k _ _ hb).1,k.get hb,.inr ⟨hb,.lst hb r⟩,.lst r⟩
 ·cases e
  cases r with
  | dcT hb l r=>exact ⟨rfl,_,_,rfl,(k _ _ hb).1,k.get hb,.inr ⟨hb,.dcT hb l r⟩,.lT l r⟩
 ·cases e
  cases r with
  | dcK hb l r=>exact ⟨rfl,_,_,rfl,(k _ _ hb).1,k.get hb,.inr ⟨hb,.dcK hb l r⟩,.lK l r⟩
 ·cases e
section
variable {X:Cx}{Wx:WX}{a e:Expr}{es:List Expr}{ma:bJ D}{ms:bJ (List D)}{pos p:Pos}{k:Nat}{x:Str}{b:List Bool}
theorem aaT.grow {W:Wd}{K:Frag}{B H B1 H1:Hp}{E:XK}{r:Res (List D)}{Q:List V→Hp→Prop}(g:Gr W B H B1 H1) (h:aaT W K B H b r Q E):aaT W K B1 H1 b r Q E:=by
 cases r with
 | ok d s'=>exact fun v B' H' g' w r=>h v B' H' (g.trans g') w r
 | exc C fs s'=>exact fun od B' H' g' w x=>h od B' H' (g.trans g') w x
 | stuck=>exact h
end
end PV
namespace L2
open PySem PySem.W PySem.Calls PySem.Spec PyProof.Rows
end L2
namespace PV
open PySem PySem.W PySem.Calls PyProof.Rows L2
variable {G:Gd}
def kT (k:List Key):D:= .tup (k.map kD)
inductive FzV (W:Wd) (K:Frag) (B H:Hp):V→D→Prop
 | dT {a:Addr}{od:Obj}{ks:List (List Key)}{vs:List V}{ds:List D}:¬W.gq a→H a=some (.frz od (.dT (ks.zip vs)))→ks.length=vs.length→DvL K B vs ds→FzV W K B H (.ref a) (.DG (ks.zip ds))
 | dK {a:Addr}{od:Obj}{ks:List Key}{vs:List V}{ds:List D}:¬W.gq a→H a=some (.frz od (.dK (ks.zip vs)))→ks.length=vs.length→DvL K B vs ds→FzV W K B H (.ref a) (.Ei (ks.zip ds))
def aa4 (s:DS):D→D
 | .sref i=>match s.objs[i]? with
  | some (.lT kvs)=> .DG kvs
  | some (.lK kvs)=> .Ei kvs
  | _=> .sref i
 | d=>d
theorem Dv.fz {W:Wd}{K:Frag}{B H:Hp}{s:DS}{v:V}{d:D}(k:Kn W B H) (w:W.ok s B H) (ef:W.fr=K) (r:Dv K B v d) (h:aay (aa4 s d)=true):FzV W K B H v (aa4 s d):=by
 by_cases hs:∃i,d = .sref i
 ·obtain ⟨i,rfl⟩:=hs
  revert h
  show aay (match s.objs[i]? with
   | some (.lT kvs)=>D.DG kvs
   | some (.lK kvs)=> .Ei kvs
   | _=> .sref i)=true→FzV W K B H v (match s.objs[i]? with
   | some (.lT kvs)=>D.DG kvs
   | some (.lK kvs)=> .Ei kvs
   | _=> .sref i)
  cases ei:s.objs[i]? with
  | none=>intro h;cases h
  | some t=>
   obtain ⟨p,rfl,hb,nv,so⟩:=w.thing r ei
   cases t with
   | lT kvs=>obtain ⟨od,ks,vs,ds,hp,l,q,rfl⟩:=so;rw [ef] at q;exact fun _=> .dT nv hp l q
   | lK kvs=>obtain ⟨od,ks,vs,ds,hp,l,q,rfl⟩:=so;rw [ef] at q;exact fun _=> .dK nv hp l q
   | _=>intro h;cases h
 ·have ed:aa4 s d=d:=by
   cases d<;>first | rfl | exact absurd ⟨_,rfl⟩ hs
  rw [ed] at h ⊢
  cases r<;>try cases h
  ·rename_i hb l q
   exact .dK (k _ _ hb).1 (k.get hb) l q
  ·rename_i hb l q
   exact .dT (k _ _ hb).1 (k.get hb) l q
variable {G:Gd}
def acR (u:HO):Prop:=(∃kvs,u = .dT kvs)∨∃kvs,u = .dK kvs
theorem acR.im {u:HO}(h:acR u):u.Yk=false:=by rcases h with ⟨_,rfl⟩ | ⟨_,rfl⟩<;>rfl
end PV
namespace L2
open PySem PySem.W PySem.Calls PySem.Spec PyProof.Rows
end L2
namespace PV
open PySem PySem.W PySem.Calls PyProof.Rows L2
variable {G:Gd}
inductive GE (W:Wd) (K:Frag) (B H0 H:Hp) (S:Addr→Prop):List (List Key×Addr)→List (List Key×List D)→Prop
 | nil:GE W K B H0 H S [] []
 | cons {k:List Key}{q:Addr}{vs:List V}{ds:List D}{es:List (List Key×Addr)}{gs:List (List Key×List D)}:¬W.gq q→H0 q=none→B q=none→¬S q→H q=some (.lst vs)→DvL K B vs ds→GE W K B H0 H S es gs→GE W K B H0 H S ((k,q)::es) ((k,ds)::gs)
section
variable {W:Wd}{K:Frag}{B H0 H B' H':Hp}{S:Addr→Prop}{es:List (List Key×Addr)}{gs:List (List Key×List D)}
theorem GE.grow (g:Gr W B H B' H'):∀{es:List (List Key×Addr)}{gs:List (List Key×List D)},GE W K B H0 H S es gs→GE W K B' H0 H' S es gs
 | _,_,.nil=> .nil
 | _,_,.cons nv h0 hb ns hq r t=> .cons nv h0 (by rw [g.nw _ _ hq rfl];exact hb) ns (g.hh _ _ nv (Nt.none hb) hq) (r.mono g.bb) (t.grow g)
theorem GE.len:∀{es:List (List Key×Addr)}{gs:List (List Key×List D)},GE W K B H0 H S es gs→es.length=gs.length
 | _,_,.nil=>rfl
 | _,_,.cons _ _ _ _ _ _ t=>by simp [t.len]
theorem GE.off {p:Addr}{u:HO}:∀{es:List (List Key×Addr)}{gs:List (List Key×List D)},p∉es.map (·.2)→GE W K B H0 H S es gs→GE W K B H0 (upd H p u) S es gs
 | _,_,_,.nil=> .nil
 | _,_,n,.cons nv h0 hb ns hq r t=>by
  simp only [List.map_cons,List.mem_cons,not_or] at n
  exact .cons nv h0 hb ns (by rw [upd_ne (Ne.symm n.1)];exact hq) r (t.off n.2)
theorem GE.app {k:List Key}{q:Addr}{vs:List V}{ds:List D}(nv:¬W.gq q) (h0:H0 q=none) (hb:B q=none) (ns:¬S q) (hq:H q=some (.lst vs)) (r:DvL K B vs ds):∀{es:List (List Key×Addr)}{gs:List (List Key×List D)},GE W K B H0 H S es gs→GE W K B H0 H S (es++[(k,q)]) (gs++[(k,ds)])
 | _,_,.nil=> .cons nv h0 hb ns hq r .nil
 | _,_,.cons a b c d e f t=> .cons a b c d e f (t.app nv h0 hb ns hq r)
end
variable {G:Gd}
section
variable {W:Wd}{K:Frag}{B H0 H:Hp}{σ:L2.St}{ls:List Sl}{s:DS}
theorem GE.keys {S:Addr→Prop}{es:List (List Key×Addr)}{gs:List (List Key×List D)}(t:GE W K B H0 H S es gs):es.map (·.1)=gs.map (·.1):=by
 induction t with
 | nil=>rfl
 | cons _ _ _ _ _ _ _ ih=>simp [ih]
theorem GE.U0 {S:Addr→Prop}{q:Addr}{o:HO}{es:List (List Key×Addr)}{gs:List (List Key×List D)}(hb:B q=none) (t:GE W K B H0 H S es gs) (m:q∉es.map (·.2)):GE W K (upd B q o) H0 H S es gs:=by
 induction t with
 | nil=>exact .nil
 | cons a b c d e f t ih=>
  simp only [List.map_cons,List.mem_cons,not_or] at m
  exact .cons a b (by rw [upd_ne (Ne.symm m.1)];exact c) d e (f.mono (bh hb)) (ih m.2)
theorem GE.freeze {S:Addr→Prop}{B0:Hp}:∀{es:List (List Key×Addr)}{gs:List (List Key×List D)}{B:Hp},GE W K B H0 H S es gs→(es.map (·.2)).Nodup→Gr W B0 H0 B H→W.ok s B H→∃B',Gr W B0 H0 B' H∧W.ok s B' H∧Sub B B'∧(∀a,a∉es.map (·.2)→B' a=B a)∧DvL K B' (es.map fun e=>V.ref e.2) (gs.map fun g=> .lst g.2)
 | _,_,B,.nil,_,g,w=>⟨B,g,w,Sub.refl _,fun _ _=>rfl,.nil⟩
 | _,_,B,.cons (q:=q) (vs:=vs) (es:=es) (gs:=gs) nv h0 hb ns hq r t,n,g,w=>by
  simp only [List.map_cons,List.nodup_cons] at n
  have hs:Sub B (upd B q (.lst vs)):=bh hb
  obtain ⟨B',g',w',hs',off,rr⟩:=(t.U0 (o:= .lst vs) hb n.1).freeze n.2 (g.freeze nv h0 hq hb) (w.U0 hb)
  refine ⟨B',g',w',hs.trans hs',fun a ha=> ?_,.cons (.lst (hs' _ _ upd_same) (r.mono (hs.trans hs'))) rr⟩
  simp only [List.map_cons,List.mem_cons,not_or] at ha
  rw [off a ha.2,upd_ne ha.1]
end
end PV
namespace L2
open PySem PySem.W PySem.Calls PySem.Spec PyProof.Rows LiI
end L2
namespace L2
open PySem PySem.W PySem.Calls PySem.Spec PyProof.Rows
end L2
namespace PV
open PySem PySem.W PySem.Calls PyProof.Rows L2
variable {G:Gd}
section
variable {X:Cx}{k:Nat}
theorem BwO.rdK {K:Frag}{B H:Hp}{p:Addr}{u:HO}{kvs:List (Key×D)}(hp:H p=some u) (r:BwO K B u (.Ei kvs)):∃(ks:List Key) (vs:List V) (ds:List D),Rd H p (.dK (ks.zip vs))∧ks.length=vs.length∧DvL K B vs ds∧kvs=ks.zip ds:=by
 generalize ed:D.Ei kvs=d at r
 cases r with
 | dK l r=>cases ed;exact ⟨_,_,_,.inl hp,l,r,rfl⟩
 | lK l r=>cases ed;exact ⟨_,_,_,.inr ⟨_,hp⟩,l,r,rfl⟩
 | _=>cases ed
theorem BwO.rdT {K:Frag}{B H:Hp}{p:Addr}{u:HO}{kvs:List (List Key×D)}(hp:H p=some u) (r:BwO K B u (.DG kvs)):∃(ks:List (List Key)) (vs:List V) (ds:List D),Rd H p (.dT (ks.zip vs))∧ks.length=vs.length∧DvL K B vs ds∧kvs=ks.zip ds:=by
 generalize ed:D.DG kvs=d at r
 cases r with
 | dT l r=>cases ed;exact ⟨_,_,_,.inl hp,l,r,rfl⟩
 | lT l r=>cases ed;exact ⟨_,_,_,.inr ⟨_,hp⟩,l,r,rfl⟩
 | _=>cases ed
theorem Dw.Ei {W:Wd}{K:Frag}{B H:Hp}{v:V}{kvs:List (Key×D)}(k:Kn W B H) (r:Dw K B H v (.Ei kvs)):∃(p:Addr) (ks:List Key) (vs:List V) (ds:List D),v = .ref p∧Rd H p (.dK (ks.zip vs))∧ks.length=vs.length∧DvL K B vs ds∧kvs=ks.zip ds:=by
 rcases r with r | ⟨p,u,rfl,hp,r⟩
 ·generalize ed:D.Ei kvs=d at r
  cases r with
  | dcK h l r=>cases ed;exact ⟨_,_,_,_,rfl,.inr ⟨_,k.get h⟩,l,r,rfl⟩
  | _=>cases ed
 ·obtain ⟨ks,vs,ds,a,b,c,d⟩:=r.rdK hp
  exact ⟨p,ks,vs,ds,rfl,a,b,c,d⟩
theorem Dw.DG {W:Wd}{K:Frag}{B H:Hp}{v:V}{kvs:List (List Key×D)}(k:Kn W B H) (r:Dw K B H v (.DG kvs)):∃(p:Addr) (ks:List (List Key)) (vs:List V) (ds:List D),v = .ref p∧Rd H p (.dT (ks.zip vs))∧ks.length=vs.length∧DvL K B vs ds∧kvs=ks.zip ds:=by
 rcases r with r | ⟨p,u,rfl,hp,r⟩
 ·generalize ed:D.DG kvs=d at r
  cases r with
  | dcT h l r=>cases ed;exact ⟨_,_,_,_,rfl,.inr ⟨_,k.get h⟩,l,r,rfl⟩
  | _=>cases ed
 ·obtain ⟨ks,vs,ds,a,b,c,d⟩:=r.rdT hp
  exact ⟨p,ks,vs,ds,rfl,a,b,c,d⟩
end
end PV
namespace L2
open PySem PySem.W PySem.Calls PySem.Spec PyProof.Rows
end L2
namespace PV
open PySem PySem.W PySem.Calls PyProof.Rows L2
variable {G:Gd}
inductive SvL (G:Gd) (W:Wd) (K:Frag) (B H:Hp):Hp→List V→List Sl→Prop
 | nil {Hs:Hp}:SvL G W K B H Hs [] []
 | va {Hs:Hp}{v:V}{d:D}{vs:List V}{xs:List Sl}:Dv K B v d→SvL G W K B H Hs vs xs→SvL G W K B H Hs (v::vs) (.va d::xs)
 | own {Hs Hs':Hp}{p:Addr}{u:HO}{x:Sl}{vs:List V}{xs:List Sl}:x.own=true→Hs p=none→¬W.gq p→H p=some u→B p=none→u.fz=false→u.Yk=false→(∀(H0:Hp),H0 p=none→Ja G W K H0 B H (some (.ref p)) x)→(∀a,¬W.gq a→Hs' a=none→Hs a=none)→Hs' p≠none→SvL G W K B H Hs' vs xs→SvL G W K B H Hs (.ref p::vs) (x::xs)
section
variable {W:Wd}{K:Frag}{H0 B H:Hp}{σ:L2.St}{ls:List Sl}
theorem Sm.set_own {i:Nat}{p:Addr}{x':Sl}(h:Sm G W K H0 B H σ ls) (ox:x'.own=true) (hx:Ja G W K H0 B H (some (.ref p)) x')
  (fr:∀(j:Nat) (x:Sl),ls[j]?=some x→x.hold=true→σ[j]?≠some (some (.ref p))):Sm G W K H0 B H (σ.set i (some (.ref p))) (ls.set i x'):=by
 refine ⟨by simp [h.len],fun j x e=> ?_,fun j k x y q hjk e1 e2 o1 o2 e3=> ?_,h.gd⟩
 ·rcases fu e with ⟨rfl,rfl,hlt⟩ | ⟨hj,e⟩
  ·exact ⟨some (.ref p),by rw [List.getElem?_set_self (by rw [h.len];exact hlt)],hx⟩
  ·rw [List.getElem?_set_ne (Ne.symm hj)]
   exact h.sl j x e
 ·rcases fu e1 with ⟨ej,_,hlt⟩ | ⟨nj,f1⟩
  ·rw [ej,List.getElem?_set_self (by rw [h.len];exact hlt)] at e3
   cases e3
   rcases fu e2 with ⟨e,_,_⟩ | ⟨nk,f2⟩
   ·exact absurd (ej.trans e.symm) hjk
   ·rw [List.getElem?_set_ne (Ne.symm nk)]
    exact fr k y f2 o2
  ·rw [List.getElem?_set_ne (Ne.symm nj)] at e3
   rcases fu e2 with ⟨ek,_,hlt⟩ | ⟨nk,f2⟩
   ·rw [ek,List.getElem?_set_self (by rw [h.len];exact hlt)]
    intro z
    cases z
    exact fr j x f1 (Sl.O5 o1) e3
   ·rw [List.getElem?_set_ne (Ne.symm nk)]
    exact h.dj j k x y q hjk f1 f2 o1 o2 e3
def Tv (ls:List Sl):List Nat→List Sl→List Sl
 | i::is,x::xs=>Tv (ls.set i x) is xs
 | _,_=>ls
def YC (σ:L2.St):List Nat→List V→L2.St
 | i::is,v::vs=>YC (σ.set i (some v)) is vs
 | _,_=>σ
theorem Sm.QC:∀{is:List Nat}{vs:List V}{xs:List Sl}{Hs:Hp}{σ:L2.St}{ls:List Sl},Sm G W K H0 B H σ ls→SvL G W K B H Hs vs xs→(∀a,¬W.gq a→Hs a=none→H0 a=none)→(∀(j:Nat) (x:Sl) (q:Addr),ls[j]?=some x→x.hold=true→σ[j]?=some (some (.ref q))→Hs q≠none)→Sm G W K H0 B H (YC σ is vs) (Tv ls is xs)
 | [],[],[],_,_,_,sm,_,_,_=>sm
 | [],_::_,_,_,_,_,sm,_,_,_=>by unfold YC Tv;exact sm
 | [],[],_::_,_,_,_,_,r,_,_=>by cases r
 | _::_,_,_,_,_,_,sm,.nil,_,_=>sm
 | i::is,_,_,Hs,_,_,sm,.va (v:=v) (d:=d) a r,h0,fr=>by
  refine (sm.wg (i:=i) a).QC r h0 fun j x q ej hx es=> ?_
  rcases fu ej with ⟨_,z,_⟩ | ⟨nj,ej⟩
  ·rw [z] at hx;cases hx
  ·rw [List.getElem?_set_ne (Ne.symm nj)] at es
   exact fr j x q ej hx es
 | i::is,_,_,Hs,σ,ls,sm,.own (Hs':=Hs') (p:=p) (x:=x) ox hn nv hp hb f im hx hd hp' r,h0,fr=>by
  have sm1:=sm.set_own (i:=i) ox (hx H0 (h0 p nv hn)) fun j x ej hx es=>fr j x p ej hx es hn
  refine sm1.QC r (fun a nva e=>h0 a nva (hd a nva e)) fun j y q ej hy es=> ?_
  rcases fu ej with ⟨z1,_,hlt⟩ | ⟨nj,ej⟩
  ·rw [z1,List.getElem?_set_self (by rw [sm.len];exact hlt)] at es
   cases es
   exact hp'
  ·rw [List.getElem?_set_ne (Ne.symm nj)] at es
   intro e
   have:=fr j y q ej hy es
   obtain ⟨ov,e5,z⟩:=sm.sl j y ej
   rw [es] at e5
   cases e5
   have nvq:¬W.gq q:=by
    cases y with
    | ow ds=>obtain ⟨a,_,ea,nv,_⟩:=z;cases ea;exact nv
    | od ds=>obtain ⟨a,_,_,_,ea,nv,_⟩:=z;cases ea;exact nv
    | oi ds=>obtain ⟨a,_,_,_,ea,nv,_⟩:=z;cases ea;exact nv
    | on ds=>obtain ⟨a,_,_,ea,nv,_⟩:=z;cases ea;exact nv
    | bo ds=>obtain ⟨a,_,ea,nv,_⟩:=z;cases ea;exact nv
    | bz ds=>obtain ⟨a,_,ea,nv,_⟩:=z;cases ea;exact nv
    | _=>cases hy
   exact this (hd q nvq e)
end
def QL (G:Gd) (W:Wd) (K:Frag) (B H:Hp) (r:Res (List Sl)) (Q:List V→Hp→Prop) (E:XK):Prop:=match r with
 | .ok xs s'=>∀(vs:List V) (B' H':Hp),Gr W B H B' H'→W.ok s' B' H'→SvL G W K B' H' H vs xs→Q vs H'
 | .exc C fs s'=>XW W K B H C fs s' E
 | .stuck=>False
structure SVA (G:Gd) (X:Cx) (Wx:WX) (es:List Expr) (m:List Sl→M (List Sl)):Prop where
 ex:∃t,PA X es t∧∀(W:Wd) (H0:Hp) (σ:L2.St) (B H:Hp) (ls:List Sl) (s:DS) (Q:List V→Hp→Prop),Kn W B H→W.ok s B H→Sm G W X.K H0 B H σ ls→QL G W X.K B H (m ls s) Q (fun c d H'=>Wx c d σ H')→t σ H Q
section
variable {κ:Type} [DecidableEq κ] {kd:Kd κ}{X:Cx}{Wx:WX}{e a b c:Expr}{es:List Expr}{me:bJ D}{ml:bJ (List D)}{mn:bJ (List (κ×D))}{ms:List Sl→M (List Sl)}{pos:Pos}
theorem SvL.grow {W:Wd}{K:Frag}{B H B' H':Hp}(g:Gr W B H B' H'):∀{Hs:Hp}{vs:List V}{xs:List Sl},SvL G W K B H Hs vs xs→SvL G W K B' H' Hs vs xs
 | _,_,_,.nil=> .nil
 | _,_,_,.va a r=> .va (a.mono g.bb) (r.grow g)
 | _,_,_,.own (p:=p) ox hn nv hp hb f im hx hd hp' r=> .own ox hn nv (g.hh p _ nv (.none hb) hp) (by rw [g.nw p _ hp im];exact hb) f im (fun H0 h0=>(hx H0 h0).grow g) hd hp' (r.grow g)
theorem SvL.base {W:Wd}{K:Frag}{B H Hs Hs2:Hp}(d:∀a,¬W.gq a→Hs2 a=none→Hs a=none):∀{vs:List V}{xs:List Sl},SvL G W K B H Hs2 vs xs→SvL G W K B H Hs vs xs
 | _,_,.nil=> .nil
 | _,_,.va a r=> .va a (r.base d)
 | _,_,.own (p:=p) ox hn nv hp hb f im hx hd hp' r=> .own ox (d p nv hn) nv hp hb f im hx (fun a nva e=>d a nva (hd a nva e)) hp' r
theorem QL.grow {W:Wd}{K:Frag}{B H B1 H1:Hp}{E:XK}{r:Res (List Sl)}{Q:List V→Hp→Prop}(g:Gr W B H B1 H1) (h:QL G W K B H r Q E):QL G W K B1 H1 r Q E:=by
 cases r with
 | ok d s'=>exact fun v B' H' g' w r=>h v B' H' (g.trans g') w (r.base fun a nv e=>g.nn nv e)
 | exc C fs s'=>exact fun od B' H' g' w x=>h od B' H' (g.trans g') w x
 | stuck=>exact h
theorem YW:SVA G X Wx [] (fun _=>ret []):=⟨_,pa_nil,fun W H0 σ B H ls s Q k w sm h=>h [] B H (Gr.refl k) w .nil⟩
theorem acv (ha:SE G X Wx e me) (hr:SVA G X Wx es ms) (hs:starEach (e::es) X.env=(false,eval e X.env)::starEach es X.env:=by rfl):SVA G X Wx (e::es) (fun ls=>bnd (me ls) fun d=>bnd (ms ls) fun xs=>ret (.va d::xs)):=by
 obtain ⟨ta,pa,ha⟩:=ha.ex
 obtain ⟨tr,pr,hr⟩:=hr.ex
 refine ⟨_,pa_cons pa pr hs,fun W H0 σ B H ls s Q k w sm h=> ?_⟩
 refine ha W H0 σ B H ls s _ k w sm ?_
 cases e1:me ls s with
 | stuck=>rw [aO e1] at h;exact h
 | exc C fs s'=>rw [aC e1] at h;exact h
 | ok d s1=>
  rw [aP e1] at h
  intro v B1 H1 g1 w1 r1
  refine hr W H0 σ B1 H1 ls s1 _ g1.kn w1 (sm.grow g1) ?_
  cases e2:ms ls s1 with
  | stuck=>rw [aO e2] at h;exact h
  | exc C fs s'=>rw [aC e2] at h;exact fun od B' H' g' w x=>h od B' H' (g1.trans g') w x
  | ok ds s2=>
   rw [aP e2] at h
   exact fun vs B2 H2 g2 w2 r2=>h (v::vs) B2 H2 (g1.trans g2) w2 (.va (r1.mono g2.bb) (r2.base fun a nv e=>g1.nn nv e))
theorem aac (ha:SL G X Wx e ml) (hr:SVA G X Wx es ms) (hs:starEach (e::es) X.env=(false,eval e X.env)::starEach es X.env:=by rfl):SVA G X Wx (e::es) (fun ls=>bnd (ml ls) fun d=>bnd (ms ls) fun xs=>ret (.ow d::xs)):=by
 obtain ⟨ta,pa,ha⟩:=ha.ex
 obtain ⟨tr,pr,hr⟩:=hr.ex
 refine ⟨_,pa_cons pa pr hs,fun W H0 σ B H ls s Q k w sm h=> ?_⟩
 refine ha W H0 σ B H ls s _ k w sm ?_
 cases e1:ml ls s with
 | stuck=>rw [aO e1] at h;exact h
 | exc C fs s'=>rw [aC e1] at h;exact h
 | ok d s1=>
  rw [aP e1] at h
  intro p us B1 H1 g1 w1 hn nv hb hp r1
  refine hr W H0 σ B1 H1 ls s1 _ g1.kn w1 (sm.grow g1) ?_
  cases e2:ms ls s1 with
  | stuck=>rw [aO e2] at h;exact h
  | exc C fs s'=>rw [aC e2] at h;exact fun od B' H' g' w x=>h od B' H' (g1.trans g') w x
  | ok ds s2=>
   rw [aP e2] at h
   intro vs B2 H2 g2 w2 r2
   have hp2:=g2.hh p _ nv (.none hb) hp
   have hb2:B2 p=none:=by rw [g2.nw p _ hp rfl];exact hb
   exact h (.ref p::vs) B2 H2 (g1.trans g2) w2 (.own (Hs':=H1) rfl hn nv hp2 hb2 rfl rfl (fun H0 h0=>⟨p,us,rfl,nv,h0,hp2,hb2,r1.mono g2.bb⟩) (fun a nv e=>g1.nn nv e) (by rw [hp];exact fun z=>nomatch z) r2)
theorem QL.st {W:Wd}{K:Frag}{B0 H0 B H:Hp}{σ:L2.St}{ls:List Sl}{s:DS}{D:Ends}{is:List Nat}{Q:List V→Hp→Prop}(g:Gr W B0 H0 B H) (sm:Sm G W K H0 B H σ ls) (h:jO G W K Wx B0 H0 (bnd (ms ls) (fun xs=>if xs.length=is.length then ret (.nx (Tv ls is xs)) else stk) s) D)
  (q:∀(vs:List V) (H':Hp),vs.length=is.length→D.nx (YC σ is vs) H'→Q vs H'):QL G W K B H (ms ls s) Q (fun c d H'=>Wx c d σ H'):=by
 cases e:ms ls s with
 | stuck=>rw [aO e] at h;exact h
 | exc C fs s'=>rw [aC e] at h;exact fun od B' H' g' w x=>h od σ B' H' (g.trans g') w x
 | ok xs s1=>
  rw [aP e] at h
  intro vs B1 H1 g1 w1 r
  have lv:∀{Hs:Hp}{vs:List V}{xs:List Sl},SvL G W K B1 H1 Hs vs xs→vs.length=xs.length:=by
   intro Hs vs xs r
   induction r with
   | nil=>rfl
   | va _ _ ih=>simp [ih]
   | own _ _ _ _ _ _ _ _ _ _ _ ih=>simp [ih]
  split at h
  ·rename_i hl
   refine q vs H1 (by rw [lv r];exact hl) (h _ B1 H1 (g.trans g1) w1 ((sm.grow g1).QC r (fun a nv e=>g.nn nv e) fun j x qq ej hx es e=> ?_))
   exact sm.fresh e j x ej hx es
  ·exact (show False from h).elim
theorem Vk {i j l:Nat}{x y z:Str}{px py pz pt:Pos}{kt k2:Nat}{pt2:Pos}(hc:X.calm=true) (hN:X.N.Nodup) (ha:SVA G X Wx [a,b,c] ms) (hi:X.N[i]?=some x:=by rfl) (hj:X.N[j]?=some y:=by rfl) (hl:X.N[l]?=some z:=by rfl) (hij:i≠j:=by decide) (hil:i≠l:=by decide) (hjl:j≠l:=by decide)
  (hx:X.env.scope.names.lookup x=some .local:=by rfl) (hy:X.env.scope.names.lookup y=some .local:=by rfl) (hz:X.env.scope.names.lookup z=some .local:=by rfl)
  (hw:swappedStores [.Tuple [.Name x px,.Name y py,.Name z pz] kt pt] (.Tuple [a,b,c] k2 pt2) X.env=pure (some [x,y,z]):=by rfl)
  (hs:swapsWithSole [.Tuple [.Name x px,.Name y py,.Name z pz] kt pt] (.Tuple [a,b,c] k2 pt2) pos.line X.env=pure false:=by rfl) :
  SS G X Wx (.Assign [.Tuple [.Name x px,.Name y py,.Name z pz] kt pt] (.Tuple [a,b,c] k2 pt2) pos) (fun ls=>bnd (ms ls) fun xs=>if xs.length=3 then ret (.nx (Tv ls [i,j,l] xs)) else stk):=by
 obtain ⟨ta,pa,ha⟩:=ha.ex
 refine ⟨_,ps_par3 hc hN hi hj hl hij hil hjl hx hy hz pa hw hs,fun W B0 H0 σ B H ls s D g w sm h=> ?_⟩
 refine ha W H0 σ B H ls s _ g.kn w sm (QL.st (is:=[i,j,l]) g sm h fun vs H' hl q=> ?_)
 match vs,hl with
 | [v1,v2,v3],_=>exact ⟨v1,v2,v3,rfl,q⟩
end
end PV
namespace PV.ST
open PySem PySem.W L2
def orb (m:Nat):Nat→Nat→Nat→Nat
 | 0,_,acc=>acc
 | n+1,x,acc=>orb m n ((x*5+1)%(m+1)) (acc ||| 2^x)
theorem Gg (m x:Nat):∀k,lcgI m ((x*5+1)%(m+1)) k=lcgI m x (k+1)
 | 0=>rfl
 | k+1=>by
  show (lcgI m ((x*5+1)%(m+1)) k*5+1)%(m+1)=(lcgI m x (k+1)*5+1)%(m+1)
  rw [Gg m x k]
theorem Q7 (m j:Nat):∀(n x acc:Nat),(orb m n x acc).testBit j=true→acc.testBit j=true∨∃k,k<n∧lcgI m x k=j
 | 0,_,_,h=> .inl h
 | n+1,x,acc,h=>by
  rcases Q7 m j n _ _ h with h | ⟨k,hk,e⟩
  ·rw [Nat.testBit_or,Bool.or_eq_true] at h
   rcases h with h | h
   ·exact .inl h
   ·rw [Nat.testBit_two_pow] at h
    exact .inr ⟨0,by omega,of_decide_eq_true h⟩
  ·exact .inr ⟨k+1,by omega,(Gg m x k).symm.trans e⟩
structure GM (m:Nat):Prop where
 odd:m%2=1
 orb:orb m (m+1) 0 0=2^(m+1)-1
 per:lcgI m 0 (m+1)=0
def masks:List Nat:=[7,31,127,511,2047]
variable {m:Nat}
theorem GM.zero (G:GM m) {j:Nat}(hj:j≤m):∃k,k≤m∧lcgI m 0 k=j:=by
 have h:(ST.orb m (m+1) 0 0).testBit j=true:=by
  rw [G.orb,Nat.testBit_two_pow_sub_one]
  exact decide_eq_true (by omega)
 rcases Q7 m j _ _ _ h with h | ⟨k,hk,e⟩
 ·rw [Nat.zero_testBit] at h;cases h
 ·exact ⟨k,by omega,e⟩
theorem Bb (x a:Nat):∀k,lcgI m (lcgI m x a) k=lcgI m x (a+k)
 | 0=>rfl
 | k+1=>by
  show (lcgI m (lcgI m x a) k*5+1)%(m+1)=(lcgI m x (a+k)*5+1)%(m+1)
  rw [Bb x a k]
theorem GM.any (G:GM m) {i j:Nat}(hi:i≤m) (hj:j≤m):∃k,k≤m∧lcgI m i k=j:=by
 obtain ⟨a,ha,rfl⟩:=G.zero hi
 obtain ⟨b,hb,rfl⟩:=G.zero hj
 by_cases c:a≤b
 ·exact ⟨b-a,by omega,by rw [Bb,show a+(b-a)=b by omega]⟩
 ·refine ⟨m+1-a+b,by omega,?_⟩
  rw [Bb,show a+(m+1-a+b)=m+1+b by omega,←Bb,G.per]
theorem GM.run (G:GM m) (h:Int) {j:Nat}(hj:j≤m):∃n,n≤m+12∧runI m (SetTable.bits h) n=j:=by
 obtain ⟨k,hk,e⟩:=G.any (runI_le m (SetTable.bits h) 12) hj
 exact ⟨12+k,by omega,(runI_tail (bits_lt h) k).trans e⟩
theorem GM.meet (G:GM m) (h:Int) {j:Nat}(hj:j≤m):∃k,k<10*SetTable.turns m∧way m h k=j:=by
 obtain ⟨n,hn,e⟩:=G.run h hj
 obtain ⟨k,hk,e2⟩:=run_nth m (SetTable.bits h) n
 exact ⟨k,by unfold SetTable.turns;omega,(congrArg SetTable.Probe.j e2).trans e⟩
theorem Xj (h:Int) (k:Nat):way m h k≤m:=by
 have a:SetTable.bits h%(m+1)≤m:=Nat.le_of_lt_succ (Nat.mod_lt _ (Nat.succ_pos _))
 have b:=runEnd_bd a
 have c:=nth_in (m:=m) k (runAt m (SetTable.bits h%(m+1)) (SetTable.bits h)) (by unfold runAt;simp only;omega)
 show (nth m (runAt m (SetTable.bits h%(m+1)) (SetTable.bits h)) k).j≤m
 omega
structure Tb (t:SetTable) (hs:List Int):Prop where
 up:Ris t.place.toList
 nod:t.dummies = #[]
 len:t.place.toList.length=hs.length
 gm:GM t.mask
 bnd:∀x∈t.place.toList,x≤t.mask
 fnd:∀(i:Nat) (h:Int) (j:Nat),hs[i]?=some h→t.place.toList[i]?=some j→∃k,way t.mask h k=j∧∀q,q<k→way t.mask h q∈t.place.toList
variable {t:SetTable}{hs:List Int}
theorem Tb.free (T:Tb t hs) (hl:hs.length≤t.mask) (h:Int):∃K,K<10*SetTable.turns t.mask∧way t.mask h K∉t.place.toList∧∀k,k<K→way t.mask h k∈t.place.toList:=by
 have hlen:=T.len
 obtain ⟨j,hj,hn⟩:=st_missing t.place.toList (t.mask+1) (by omega)
 obtain ⟨k,hk,rfl⟩:=T.gm.meet h (j:=j) (by omega)
 obtain ⟨K,a,b,c⟩:=st_least (p:=fun k=>way t.mask h k∉t.place.toList) k hn
 exact ⟨K,by omega,b,fun q hq=>Classical.not_not.mp (c q hq)⟩
theorem Tb.add (T:Tb t hs) {h:Int}{K:Nat}(hK:way t.mask h K∉t.place.toList) (hb:∀k,k<K→way t.mask h k∈t.place.toList) {p:Nat}(hp:p=SetTable.below t.place (way t.mask h K)) :
  p≤hs.length∧Tb (t.put (way t.mask h K)).1 (hs.take p++h::hs.drop p)∧(t.put (way t.mask h K)).1.fill=hs.length+1:=by
 have hjm:way t.mask h K≤t.mask:=Xj h K
 obtain ⟨j,hj⟩:∃j,j=way t.mask h K:=⟨_,rfl⟩
 rw [←hj] at hK hjm hp ⊢
 have hpl:p≤t.place.toList.length:=by
  rw [hp,Array.length_toList]
  exact (below_cut T.up j).1
 have hph:p≤hs.length:=by rw [←T.len];exact hpl
 have hpp:(t.put j).1.place.toList=t.place.toList.take p++j::t.place.toList.drop p:=by rw [hp];exact put_place t j
 have hin:∀{x:Nat},x∈(t.put j).1.place.toList↔x=j∨x∈t.place.toList:=by
  intro x
  rw [hpp]
  exact mem_ins
 have hne:t.place[SetTable.below t.place j]?≠some j:=fun e=>hK (List.mem_of_getElem? (by rw [Array.getElem?_toList];exact e))
 have hd:=put_dm T.nod j
 have hlen:(t.put j).1.place.toList.length=hs.length+1:=by rw [hpp,len_ins _ hpl,T.len]
 refine ⟨hph,⟨ris_insert T.up hne,hd,by rw [hlen,len_ins _ hph],T.gm,fun x hx=> ?_,fun i h' j' a b=> ?_⟩,?_⟩
 ·rcases hin.mp hx with rfl | hx
  ·exact hjm
  ·exact T.bnd x hx
 ·show ∃k,way t.mask h' k=j'∧∀q,q<k→way t.mask h' q∈(t.put j).1.place.toList
  rw [tins_get hs hph] at a
  rw [hpp,tins_get _ hpl] at b
  have old:∀i,hs[i]?=some h'→t.place.toList[i]?=some j'→∃k,way t.mask h' k=j'∧∀q,q<k→way t.mask h' q∈(t.put j).1.place.toList:=fun i a b=>by
   obtain ⟨k,e,f⟩:=T.fnd i h' j' a b
   exact ⟨k,e,fun q hq=>hin.mpr (.inr (f q hq))⟩
  split at a
  ·rename_i c
   rw [if_pos c] at b
   exact old i a b
  ·rename_i c
   rw [if_neg c] at b
   split at a
   ·rename_i d
    rw [if_pos d] at b
    cases a
    cases b
    exact ⟨K,hj.symm,fun q hq=>hin.mpr (.inr (hb q hq))⟩
   ·rename_i d
    rw [if_neg d] at b
    exact old (i-1) a b
 ·show (t.put j).1.place.size+(t.put j).1.dummies.size=_
  rw [hd,←Array.length_toList,hlen]
  rfl
structure Sits (m:Nat) (done:List Int) (own:Array (Option Nat)):Prop where
 sz:own.size=m+1
 who:∀j k,j≤m→oAt own j=some k→∃h K,done[k]?=some h∧way m h K=j∧∀q,q<K→oAt own (way m h q)≠none
 all:∀k,k<done.length→∃j,j≤m∧oAt own j=some k
 few:∃ps:List Nat,ps.length=done.length∧∀j,j≤m→oAt own j≠none→j∈ps
theorem Sits.zero (m:Nat):Sits m [] (Array.replicate (m+1) none):=
 ⟨by simp,fun j k hj e=>(by rw [oAt_init hj] at e;cases e),fun k hk=>absurd hk (Nat.not_lt_zero _),[],rfl,fun j hj e=>absurd (oAt_init hj) e⟩
theorem free_at (G:GM m) (own:Array (Option Nat)) (h:Int) {j:Nat}(hj:j≤m) (hf:oAt own j=none) :
  ∃K,SetTable.layClean.free m own (SetTable.turns m) (SetTable.bits h%(m+1)) (SetTable.bits h)=some (way m h K)∧oAt own (way m h K)=none∧∀k,k<K→oAt own (way m h k)≠none:=by
 obtain ⟨n,hn,e⟩:=G.run h hj
 have hw:way m h (off m (SetTable.bits h%(m+1)) (SetTable.bits h) n)=j:=by
  show (nth m (runAt m _ _) (off m _ _ n)).j=j
  rw [nth_off,itL_run]
  exact e
 obtain ⟨K,a,b,c⟩:=st_least (p:=fun k=>oAt own (way m h k)=none) _ (show oAt own (way m h (off m (SetTable.bits h%(m+1)) (SetTable.bits h) n))=none by rw [hw];exact hf)
 refine ⟨K,free_spec m own (SetTable.turns m) n _ _ K (by unfold SetTable.turns;omega) a (fun k hk=> ?_) ?_,b,c⟩
 ·have q:=c k hk
  cases z:oAt own (way m h k) with
  | none=>exact absurd z q
  | some x=>rfl
 ·show (oAt own (way m h K)).isNone=true
  rw [show oAt own (way m h K)=none from b]
  rfl
theorem Sits.next (G:GM m) {done:List Int}{own:Array (Option Nat)}(S:Sits m done own) (hl:done.length≤m) (h:Int) :
  ∃j,SetTable.layClean.free m own (SetTable.turns m) (SetTable.bits h%(m+1)) (SetTable.bits h)=some j∧Sits m (done++[h]) (own.setIfInBounds j (some done.length)):=by
 obtain ⟨ps,e1,e2⟩:=S.few
 obtain ⟨j0,a0,n0⟩:=st_missing ps (m+1) (by omega)
 have f0:oAt own j0=none:=by
  cases z:oAt own j0 with
  | none=>rfl
  | some k=>exact absurd (e2 j0 (by omega) (by rw [z];simp)) n0
 obtain ⟨K,b1,b2,b3⟩:=free_at G own h (by omega) f0
 obtain ⟨j,hj⟩:∃j,j=way m h K:=⟨_,rfl⟩
 have hjm:j≤m:=hj ▸ Xj h K
 have self:oAt (own.setIfInBounds j (some done.length)) j=some done.length:=oAt_set_self _ (by rw [S.sz];omega)
 have keep:∀{i},oAt own i≠none→oAt (own.setIfInBounds j (some done.length)) i≠none:=fun {i} hi=>by
  by_cases c:i=j
  ·rw [c,self];simp
  ·rw [oAt_set_ne _ c];exact hi
 rw [←hj] at b1 b2
 refine ⟨j,b1,by rw [Array.size_setIfInBounds];exact S.sz,fun i k hi e=> ?_,fun k hk=> ?_,j::ps,by simp [e1],fun i hi e=> ?_⟩
 ·by_cases c:i=j
  ·rw [c,self] at e
   cases e
   exact ⟨h,K,by simp,by rw [c,hj],fun q hq=>keep (b3 q hq)⟩
  ·rw [oAt_set_ne _ c] at e
   obtain ⟨h',K',d1,d2,d3⟩:=S.who i k hi e
   exact ⟨h',K',by rw [List.getElem?_append_left (List.getElem?_eq_some_iff.mp d1).1];exact d1,d2,fun q hq=>keep (d3 q hq)⟩
 ·by_cases c:k<done.length
  ·obtain ⟨i,hi,e⟩:=S.all k c
   refine ⟨i,hi,?_⟩
   rw [oAt_set_ne _ (fun z=>by rw [z,b2] at e;cases e)]
   exact e
  ·have:k=done.length:=by
    rw [List.length_append] at hk
    simp at hk
    omega
   exact ⟨j,hjm,this ▸ self⟩
 ·by_cases c:i=j
  ·rw [c];exact List.mem_cons_self
  ·rw [oAt_set_ne _ c] at e
   exact List.mem_cons_of_mem _ (e2 i hi e)
abbrev NK:=NestedKey
section
variable {P:Program}{w:World}{A:Around}{E:Value→Shared→Prop}{s:Shared}
abbrev nh (w:World) (k:NK):Int:=k.hash w
abbrev nIs (P:Program) (w:World) (h:Heap) (k:NK) (a:Addr):Prop:=(nestedKind P w).is h k a
def ents (w:World) (L:List (Addr×NK)):List (Int×Value):=L.map fun p=>(nh w p.2,Value.ref p.1)
theorem Xc (L:List (Addr×NK)):(ents w L).length=L.length:=List.length_map ..
structure SetN (P:Program) (w:World) (h:Heap) (a:Addr) (L:List (Addr×NK)) (es:Array (Int×Value)) (ep:Nat) (t:SetTable):Prop where
 ob:∃o,h.get? a=some o∧o.ExactSet∧o.data = .set es ep t
 rows:es.toList=ents w L
 tb:Tb t (L.map fun p=>nh w p.2)
 mks:t.mask∈masks
 nd:(L.map (·.2)).Nodup
 key:∀p∈L,nIs P w h p.2 p.1
 led:w.params.followText "set-order" = true∨t.led=true
 room:L.length*5<t.mask*3
variable {a:Addr}{L:List (Addr×NK)}{es:Array (Int×Value)}{ep:Nat}{t:SetTable}
theorem SetN.n (R:SetN P w s.heap a L es ep t):es.size=L.length:=by
 have h:=congrArg List.length R.rows
 rw [Xc,Array.length_toList] at h
 exact h
theorem SetN.at_ (R:SetN P w s.heap a L es ep t) {i:Nat}{p:Addr×NK}(h:L[i]?=some p):es[i]?=some (nh w p.2,Value.ref p.1):=by
 rw [←Array.getElem?_toList,R.rows]
 unfold ents
 rw [List.getElem?_map,h]
 rfl
abbrev start (m:Nat) (h:Int):SetTable.Probe:=runAt m (SetTable.bits h%(m+1)) (SetTable.bits h)
end
end PV.ST
namespace PV.ST
open PySem PySem.W L2 PyProof.Rows
structure Has (ks:List (Addr×NK)) (i:Nat) (L:List (Addr×NK)):Prop where
 from_:∀p∈L,p∈ks
 keys:∀k,k∈L.map (·.2)↔k∈(ks.take i).map (·.2)
theorem Has.zero (ks:List (Addr×NK)):Has ks 0 []:=⟨fun p h=>(by cases h),fun k=>by simp⟩
theorem take_one {α:Type}{l:List α}{i:Nat}{x:α}(h:l[i]?=some x):l.take (i+1)=l.take i++[x]:=by
 rw [List.take_succ,h]
 rfl
theorem Has.stay {ks L:List (Addr×NK)}{i:Nat}{x:Addr×NK}(g:Has ks i L) (h:ks[i]?=some x) (hm:x.2∈L.map (·.2)):Has ks (i+1) L:=by
 refine ⟨g.from_,fun k=> ?_⟩
 rw [take_one h,List.map_append,List.mem_append,←g.keys k]
 constructor
 ·exact .inl
 ·rintro (z | z)
  ·exact z
  ·simp at z
   rw [z]
   exact hm
theorem Has.more {ks L L':List (Addr×NK)}{i:Nat}{x:Addr×NK}(g:Has ks i L) (h:ks[i]?=some x) (pm:L'.Perm (x::L)):Has ks (i+1) L':=by
 refine ⟨fun p hp=> ?_,fun k=> ?_⟩
 ·rcases List.mem_cons.mp (pm.mem_iff.mp hp) with rfl | hp
  ·exact List.mem_of_getElem? h
  ·exact g.from_ p hp
 ·rw [take_one h,List.map_append,List.mem_append,←g.keys k,(pm.map (·.2)).mem_iff,List.map_cons,List.mem_cons]
  constructor
  ·rintro (z | z)
   ·exact .inr (by simp [z])
   ·exact .inl z
  ·rintro (z | z)
   ·exact .inr z
   ·exact .inl (by simpa using z)
section
variable {P:Program}{w:World}{A:Around}{E:Value→Shared→Prop}{s:Shared}
theorem SetN.keep {h h':Heap}{a:Addr}{L:List (Addr×NK)}{es:Array (Int×Value)}{ep:Nat}{t:SetTable}(R:SetN P w h a L es ep t) (ha:∀o,h.get? a=some o→h'.get? a=some o) (ht:∀p∈L,nIs P w h' p.2 p.1):SetN P w h' a L es ep t:=by
 obtain ⟨o,ho,r⟩:=R.ob
 exact ⟨⟨o,ha o ho,r⟩,R.rows,R.tb,R.mks,R.nd,ht,R.led,R.room⟩
end
end PV.ST
namespace PV
open PySem PySem.W PySem.Calls PyProof.Rows L2
def Wp {α:Type}(r:Res α) (Q:α→DS→Prop):Prop:=∃a s,r = .ok a s∧Q a s
theorem Wp.ok {α:Type}{a:α}{s:DS}{Q:α→DS→Prop}(h:Q a s):Wp (.ok a s) Q:=⟨a,s,rfl,h⟩
theorem Wp.bnd {α β:Type}{m:M α}{f:α→M β}{s:DS}{Q:β→DS→Prop}(h:Wp (m s) fun a s'=>Wp (f a s') Q):Wp (bnd m f s) Q:=by
 obtain ⟨a,s',e,b,s2,e2,q⟩:=h
 exact ⟨b,s2,by rw [aP e,e2],q⟩
theorem Wp.mono {α:Type}{r:Res α}{Q R:α→DS→Prop}(h:Wp r Q) (f:∀a s,Q a s→R a s):Wp r R:=by
 obtain ⟨a,s,e,q⟩:=h
 exact ⟨a,s,e,f a s q⟩
theorem Wp.of_eq {α:Type}{r:Res α}{a:α}{s:DS}{Q:α→DS→Prop}(e:r = .ok a s) (h:Q a s):Wp r Q:=⟨a,s,e,h⟩
theorem Wp.draw {am:Addr}{l:Int}{s:DS}{Q:D→DS→Prop}(h:DOk am s) (hs:s.spot<1125899906842624) (h0:0<l) (hl:l<1073741824)
  (k:∀r s',0≤r→r<l→DOk am s'→s'.spot=s.spot+1→Q (.int r) s'):Wp (dU [.raw (.ref am),.int l] s) Q:=by
 obtain ⟨r,s',e,h1,h2,h3,h4⟩:=Yq h hs h0 hl
 exact ⟨_,_,e,k r s' h1 h2 h3 h4⟩
theorem lX {mg:MG}{mt:bJ Bool}{me:bJ D}{ls:List Sl}{s:DS}{α:Type}(g:α→D) (f:α→D):∀(xs:List α),(∀x∈xs,∃ls1,mg (g x) ls=some ls1∧mt ls1 s = .ok true s∧me ls1 s = .ok (f x) s)→yQ mg mt me (xs.map g) ls s = .ok (xs.map f) s
 | [],_=>rfl
 | x::xs,h=>by
  obtain ⟨ls1,e,e1,e2⟩:=h x List.mem_cons_self
  have ih:=lX g f xs fun y hy=>h y (List.mem_cons_of_mem _ hy)
  have en:nox (mt ls1) s = .ok true s:=by unfold nox;rw [e1]
  have en2:nox (me ls1) s = .ok (f x) s:=by unfold nox;rw [e2]
  rw [List.map_cons,yQ,e]
  show bnd (nox (mt ls1)) _ s=_
  rw [aP en]
  simp only [if_true]
  rw [aP en2,aP ih]
  rfl
theorem Gm {α:Type}(f:α→Bool):∀l:List α,Bv (l.map fun x=>D.bl (f x))=some (l.map f)
 | []=>rfl
 | x::l=>by
  show (Bv (l.map fun x=>D.bl (f x))).map (f x :: ·)=_
  rw [Gm f l]
  rfl
theorem xK {α:Type}(f:α→Bool) (l:List α) (s:DS):Et [.lst (l.map fun x=>D.bl (f x))] s = .ok (.bl (l.all f)) s:=by
 show oG ((Bv (l.map fun x=>D.bl (f x))).map fun bs=>D.bl (bs.all id)) s=_
 rw [Gm]
 show Res.ok (D.bl ((l.map f).all id)) s=_
 rw [List.all_map]
 rfl
theorem Xe {α:Type}(f:α→Bool) (l:List α) (s:DS):ZR [.lst (l.map fun x=>D.bl (f x))] s = .ok (.bl (l.any f)) s:=by
 show oG ((Bv (l.map fun x=>D.bl (f x))).map fun bs=>D.bl (bs.any id)) s=_
 rw [Gm]
 show Res.ok (D.bl ((l.map f).any id)) s=_
 rw [List.any_map]
 rfl
theorem Rh {α:Type}(xs:List α) (i:Nat):fZ xs none (some (i:Int))=xs.take i:=by
 unfold fZ
 rw [HT.sIx_none,HT.sIx_nat]
 show (xs.drop 0).take (min i xs.length-0)=_
 rw [List.drop_zero,Nat.sub_zero]
 by_cases h:i≤xs.length
 ·rw [Nat.min_eq_left h]
 ·rw [Nat.min_eq_right (by omega),List.take_length,List.take_of_length_le (by omega)]
abbrev Ch:=Int×List Str
abbrev Gs:=Option (List (List Ch))
abbrev Rw:=(Int×Str)×Gs
def eW (w:List Str):D:= .tup (w.map .str)
def eC (c:Ch):D:= .tup [.int c.1,eW c.2]
def eG (g:List Ch):D:= .tup (g.map eC)
def Fd:Gs→D
 | none=> .str "home"
 | some gs=> .tup (gs.map eG)
def eK (k:Int×Str):D:= .tup [.int k.1,.str k.2]
def eR (r:Rw):D:= .tup [eK r.1,Fd r.2]
def eP (p:Int×Int):D:= .tup [.int p.1,.int p.2]
structure Net where
 roads:List (Int×Int)
 labels:List Str
 rows:List Rw
def eN (n:Net):D:= .tup [.tup (n.roads.map eP),eW n.labels,.tup (n.rows.map eR)]
def pW (w:List Str):PyData:= .tuple (w.map .str)
def pC (c:Ch):PyData:= .tuple [.int c.1,pW c.2]
def pG (g:List Ch):PyData:= .tuple (g.map pC)
def Pq:Gs→PyData
 | none=> .str "home"
 | some gs=> .tuple (gs.map pG)
def pK (k:Int×Str):PyData:= .tuple [.int k.1,.str k.2]
def pR (r:Rw):PyData:= .tuple [pK r.1,Pq r.2]
theorem fU {α:Type}(f:α→D) (g:α→PyData) (h:∀x,(f x).pd=some (g x)):∀l:List α,D.tM (l.map f)=some (l.map g)
 | []=>rfl
 | x::l=>by
  show (match D.pd (f x),D.tM (l.map f) with | some a,some r=>some (a::r) | _,_=>none)=_
  rw [h x,fU f g h l]
  rfl
theorem nA {l:List D}{ps:List PyData}(h:D.tM l=some ps):D.pd (.tup l)=some (.tuple ps):=by
 show (D.tM l).map PyData.tuple=_
 rw [h];rfl
theorem aaF (w:List Str):(eW w).pd=some (pW w):=nA (fU _ _ (fun _=>rfl) w)
theorem Tq {a b:D}{p q:PyData}(h1:a.pd=some p) (h2:b.pd=some q):D.tM [a,b]=some [p,q]:=by
 show (match D.pd a,(match D.pd b,D.tM [] with | some a,some r=>some (a::r) | _,_=>none) with | some a,some r=>some (a::r) | _,_=>none)=_
 rw [h1,h2];rfl
theorem Xf (c:Ch):(eC c).pd=some (pC c):=nA (Tq rfl (aaF _))
theorem aeu (g:List Ch):(eG g).pd=some (pG g):=nA (fU _ _ Xf g)
theorem aap (g:Gs):(Fd g).pd=some (Pq g):=by
 cases g with
 | none=>rfl
 | some gs=>exact nA (fU _ _ aeu gs)
theorem aec (k:Int×Str):(eK k).pd=some (pK k):=rfl
theorem Zz (r:Rw):(eR r).pd=some (pR r):=nA (Tq (aec _) (aap _))
theorem eqvAll_map {α:Type}(g:α→PyData) (h:∀x y,PyData.eqv (g x) (g y)=true↔x=y):∀l m:List α,PyData.eqvAll (l.map g) (m.map g)=true↔l=m
 | [],[]=>by simp [PyData.eqvAll]
 | [],y::m=>by simp [PyData.eqvAll]
 | x::l,[]=>by simp [PyData.eqvAll]
 | x::l,y::m=>by
  rw [List.map_cons,List.map_cons,PyData.eqvAll,Bool.and_eq_true,h,eqvAll_map g h l m]
  simp
theorem acS (v w:List Str):PyData.eqv (pW v) (pW w)=true↔v=w:=by
 unfold pW
 rw [PyData.eqv,eqvAll_map]
 intro x y
 rw [PyData.eqv]
 simp
theorem Z8 (c d:Ch):PyData.eqv (pC c) (pC d)=true↔c=d:=by
 unfold pC
 rw [PyData.eqv,PyData.eqvAll,PyData.eqvAll,PyData.eqvAll,Bool.and_true,Bool.and_eq_true,acS,PyData.eqv]
 rcases c with ⟨a,b⟩
 rcases d with ⟨a',b'⟩
 simp
section
variable {α β:Type}{s:DS}{ls:List Sl}
@[simp] theorem aeG {m:M α}{f:α→M β}:bnd m f s=(match m s with
 | .ok a s'=>f a s'
 | .exc C fs s'=> .exc C fs s'
 | .stuck=> .stuck):=rfl
@[simp] theorem aeX {a:α}:(ret a:M α) s = .ok a s:=rfl
@[simp] theorem ae5:(stk:M α) s = .stuck:=rfl
@[simp] theorem aeM {C:Addr}{fs:List (Str×D)}:(thr C fs:M α) s = .exc C fs s:=rfl
@[simp] theorem ae3 {c:Prop} [Decidable c] {m m':M α}:(if c then m else m') s=if c then m s else m' s:=by split<;>rfl
@[simp] theorem oZ {i:Nat}{d:D}(h:ls[i]?=some (.va d)):au i ls=ret d:=by unfold au;rw [h]
@[simp] theorem abF {i:Nat}{ds:List D}(h:ls[i]?=some (.ow ds)):iU i ls=ret (.lst ds):=by unfold iU;rw [h]
@[simp] theorem afh {op:D→D→M D}{ma mb:bJ D}:m2 op ma mb ls=bnd (ma ls) fun x=>bnd (mb ls) fun y=>op x y:=rfl
@[simp] theorem adA {ma:bJ D}{ms:bJ (List D)}:ao ma ms ls=bnd (ma ls) fun d=>bnd (ms ls) fun ds=>ret (d::ds):=rfl
@[simp] theorem adB {ma:bJ D}{ms:bJ (List D)}:BK ma ms ls=bnd (ma ls) fun d=>bnd (tZ d) fun xs=>bnd (ms ls) fun ds=>ret (xs++ds):=rfl
@[simp] theorem aem {ma mb:bJ D}:xH ma mb ls=bnd (ma ls) fun x=>Pu x (mb ls) (ret (.bl false)):=rfl
@[simp] theorem ae6 {ma mb:bJ D}:mOr ma mb ls=bnd (ma ls) fun x=>Pu x (ret (.bl true)) (mb ls):=rfl
@[simp] theorem adW {ma:bJ D}:WM ma ls=bnd (ma ls) fun x=>Pu x (ret (.bl false)) (ret (.bl true)):=rfl
@[simp] theorem aez {b:Bool}{t f:M D}:Pu (.bl b) t f s=bif b then t s else f s:=by cases b<;>rfl
@[simp] theorem ado {f g:D→D→M D}{ma mb mc:bJ D}:o9 f g ma mb mc ls=bnd (ma ls) fun x=>bnd (mb ls) fun y=>bnd (f x y) fun z=>Pu z (bnd (mc ls) fun u=>g y u) (ret (.bl false)):=rfl
@[simp] theorem adX {ma mb:bJ Bool}:Zo ma mb ls=bnd (ma ls) fun x=>if x=true then mb ls else ret false:=rfl
@[simp] theorem aeV {ma mb:bJ Bool}:J5 ma mb ls=bnd (ma ls) fun x=>if x=true then ret true else mb ls:=rfl
@[simp] theorem aew {ma:bJ Bool}:d7 ma ls=bnd (ma ls) fun x=>ret (!x):=rfl
@[simp] theorem aeF {n:bJ Bool}{ma mb:bJ D}:Jf n ma mb ls=bnd (n ls) fun x=>if x=true then ma ls else mb ls:=rfl
@[simp] theorem aeo {n:bJ Bool}{m m':MS}:eY n m m' ls=bnd (n ls) fun x=>if x=true then m ls else m' ls:=rfl
@[simp] theorem xQ {m m':MS}:aR m m' ls s=(match m ls s with
 | .ok (.nx l) s'=>m' l s'
 | .ok f s'=> .ok f s'
 | .exc C fs s'=> .exc C fs s'
 | .stuck=> .stuck):=by
 unfold aR bnd
 cases m ls s with
 | ok f s'=>cases f<;>rfl
 | exc C fs s'=>rfl
 | stuck=>rfl
@[simp] theorem adN {m:bJ D}:cW m ls=bnd (m ls) fun d=>ret (.rt d):=rfl
@[simp] theorem ael:fJ ls=ret (.nx ls):=rfl
@[simp] theorem adJ {n:Nat}{mb:MS}{ds:List D}:dG n mb ds s=bnd (mb (argL n ds)) endF s:=rfl
@[simp] theorem aej {n:Nat}{ds:List D}:argL n ds=ds.map Sl.va++List.replicate (n-ds.length) Sl.un:=rfl
@[simp] theorem adE {d:D}:endF (.rt d)=ret d:=rfl
@[simp] theorem adH {l:List Sl}:endF (.nx l)=ret .non:=rfl
@[simp] theorem ZV {n:Nat}{m:List D→M D}{ds:List D}:aQ n m ds s=if ds.length=n then m ds s else .stuck:=by
 unfold aQ
 split<;>rfl
@[simp] theorem adS {b:Bool}:cQ (.bl b) s = .ok b s:=rfl
@[simp] theorem ae1 {b:Bool}:jR (.bl b) s = .ok b s:=rfl
@[simp] theorem aeN {f:Int→Int→Bool}{i j:Int}:PL f (.int i) (.int j) s = .ok (.bl (f i j)) s:=rfl
@[simp] theorem ad2 {i j:Int}:iT (.int i) (.int j) s = .ok (.int (i+j)) s:=rfl
@[simp] theorem adT {i j:Int}:uR (.int i) (.int j) s = .ok (.int (i-j)) s:=rfl
@[simp] theorem ad8 {i:Int}:YJ (.int i) s = .ok (.int (-i)) s:=rfl
@[simp] theorem zG {xs:List D}:gj [.tup xs] s = .ok (.int xs.length) s:=rfl
@[simp] theorem aea {xs:List D}:gj [.qb xs] s = .ok (.int xs.length) s:=rfl
@[simp] theorem adt {xs:List D}:tZ (.qb xs) s = .ok xs s:=rfl
@[simp] theorem aeT {xs:List D}{i:Int}:dJ (.qb xs) (.int i) s=oG (atI xs i) s:=rfl
@[simp] theorem Qq {xs:List D}:gj [.lst xs] s = .ok (.int xs.length) s:=rfl
@[simp] theorem X5 {xs:List D}:bK xs s=if xs.length≤sizeLine then .ok (.tup xs) s else .stuck:=by unfold bK;split<;>rfl
@[simp] theorem Xr {xs:List D}:eX xs s=if xs.length≤sizeLine then .ok xs s else .stuck:=by unfold eX;split<;>rfl
@[simp] theorem adC {xs:List D}:tZ (.tup xs) s = .ok xs s:=rfl
@[simp] theorem adF {xs:List D}:tZ (.lst xs) s = .ok xs s:=rfl
@[simp] theorem adw {me:bJ D}:lB me ls=bnd (me ls) tZ:=rfl
@[simp] theorem aeZ {xs:List D}{i:Int}:dJ (.tup xs) (.int i) s=oG (atI xs i) s:=rfl
@[simp] theorem ae4 {xs:List D}{i:Int}:dJ (.lst xs) (.int i) s=oG (atI xs i) s:=rfl
@[simp] theorem adL {a:α}:oG (some a) s = .ok a s:=rfl
@[simp] theorem aeg {i:Int}:intD (.int i) s = .ok (some i) s:=rfl
@[simp] theorem aeH {ma:bJ D}{ml mh:bJ (Option Int)}:Pr ma ml mh ls=bnd (ma ls) fun x=>bnd (ml ls) fun lo=>bnd (mh ls) fun hi=>slD x lo hi:=rfl
@[simp] theorem ae0 {xs:List D}{lo hi:Option Int}:slD (.tup xs) lo hi s = .ok (.tup (fZ xs lo hi)) s:=rfl
@[simp] theorem Nq {xs:List D}{lo hi:Option Int}:slD (.lst xs) lo hi s = .ok (.lst (fZ xs lo hi)) s:=rfl
@[simp] theorem ac9 {xs:List D}:jP [.lst xs] s = .ok (.tup xs) s:=rfl
@[simp] theorem ae7 {m:bJ (List D)}:mL m ls=bnd (m ls) fun ds=>ret (.lst ds):=rfl
@[simp] theorem aeY {l:List Sl}:nxO (some l)=ret (.nx l):=rfl
@[simp] theorem ac7 {i:Nat}{d:D}:gQ i d ls=some (ls.set i (.va d)):=rfl
@[simp] theorem aeK {i j:Int}:v7 (.int i) (.int j) s = .ok (.bl (decide (i=j))) s:=rfl
@[simp] theorem aeD {x y:Str}:v7 (.str x) (.str y) s = .ok (.bl (decide (x=y))) s:=rfl
@[simp] theorem aeQ {vs:List Nat}{mi:bJ (List D)}{mg:MG}{mt:bJ Bool}{me:bJ D}:qK vs mi mg mt me ls=bnd (mi ls) fun ds=>if ds.length≤sizeLine then yQ mg mt me ds (jA ls vs) else stk:=rfl
@[simp] theorem aaI {n:Nat}{ms:List D→List Sl→Option (List Sl)}{ds:List D}:jY n ms (.tup ds) ls=if ds.length=n then ms ds ls else none:=rfl
@[simp] theorem Yw {m:MG}{ms:List D→List Sl→Option (List Sl)}{d:D}{ds:List D}:cG m ms (d::ds) ls=(m d ls).bind fun ls'=>ms ds ls':=rfl
@[simp] theorem aaJ:lY [] ls=some ls:=rfl
end
theorem Wp.Ik {am:Addr}{i:Nat}{ls:List Sl}{X:bJ D}{l:Int}{s:DS}{Q:D→DS→Prop}(hi:ls[i]?=some (.va (.raw (.ref am)))) (hx:X ls s = .ok (.int l) s) (h:DOk am s) (hs:s.spot<1125899906842624) (h0:0<l) (hl:l<1073741824)
  (k:∀r s',0≤r→r<l→DOk am s'→s'.spot=s.spot+1→Q (.int r) s'):Wp (PV.bnd (ao (au i) (ao X (fun _=>ret [])) ls) (aQ 2 dU) s) Q:=by
 refine Wp.bnd (Wp.of_eq (a:=[.raw (.ref am),.int l]) (s:=s) (by simp [hi,hx]) ?_)
 exact Wp.draw h hs h0 hl k
theorem Ma {mg:MG}{mt:bJ Bool}{me:bJ D}{ls:List Sl}:∀{ds:List D}{s s':DS}{ys:List D},yQ mg mt me ds ls s = .ok ys s'→ys.length≤ds.length
 | [],s,s',ys,h=>by cases h;exact Nat.le_refl _
 | d::ds,s,s',ys,h=>by
  rw [yQ] at h
  cases e:mg d ls with
  | none=>rw [e] at h;cases h
  | some ls1=>
   rw [e] at h
   have h:bnd (nox (mt ls1)) (fun b=>if b=true then bnd (nox (me ls1)) fun y=>bnd (yQ mg mt me ds ls) fun ys=>ret (y::ys) else yQ mg mt me ds ls) s = .ok ys s':=h
   cases e1:nox (mt ls1) s with
   | stuck=>rw [aO e1] at h;cases h
   | exc C fs s2=>rw [aC e1] at h;cases h
   | ok b s1=>
    rw [aP e1] at h
    cases b with
    | false=>
     have h:yQ mg mt me ds ls s1 = .ok ys s':=by simpa using h
     have:=Ma h
     simp only [List.length_cons]
     omega
    | true=>
     have h:bnd (nox (me ls1)) (fun y=>bnd (yQ mg mt me ds ls) fun ys=>ret (y::ys)) s1 = .ok ys s':=by simpa using h
     cases e2:nox (me ls1) s1 with
     | stuck=>rw [aO e2] at h;cases h
     | exc C fs s2=>rw [aC e2] at h;cases h
     | ok y s2=>
      rw [aP e2] at h
      cases e3:yQ mg mt me ds ls s2 with
      | stuck=>rw [aO e3] at h;cases h
      | exc C fs s3=>rw [aC e3] at h;cases h
      | ok zs s3=>
       rw [aP e3] at h
       cases h
       have:=Ma e3
       simp only [List.length_cons]
       omega
theorem Wp.lcI {mg:MG}{mt:bJ Bool}{me:bJ D}{ls:List Sl}(I:Nat→List D→DS→Prop) :
  ∀(ds:List D) (n:Nat) (s:DS) (acc:List D),I n acc s→(∀(i:Nat) (d:D),ds[i]?=some d→∀acc s,I (n+i) acc s→∃ls1,mg d ls=some ls1∧∃b s1,mt ls1 s = .ok b s1∧(b=true→Wp (me ls1 s1) fun y s'=>I (n+i+1) (acc++[y]) s')∧(b=false→I (n+i+1) acc s1)) →
   Wp (yQ mg mt me ds ls s) fun ys s'=>I (n+ds.length) (acc++ys) s'
 | [],n,s,acc,h,_=>⟨[],s,rfl,by show I (n+0) (acc++[]) s;rw [List.append_nil];exact h⟩
 | d::ds,n,s,acc,h,step=>by
  obtain ⟨ls1,e,b,s1,e1,ht,hf⟩:=step 0 d rfl acc s h
  have en:nox (mt ls1) s = .ok b s1:=by unfold nox;rw [e1]
  have el:n+(d::ds).length=n+1+ds.length:=by simp only [List.length_cons];omega
  have st:∀(i:Nat) (d':D),ds[i]?=some d'→∀acc s,I (n+1+i) acc s→∃ls1,mg d' ls=some ls1∧∃b s1,mt ls1 s = .ok b s1∧(b=true→Wp (me ls1 s1) fun y s'=>I (n+1+i+1) (acc++[y]) s')∧(b=false→I (n+1+i+1) acc s1):=fun i d' hd acc s hI=>by
   have ee:n+1+i=n+(i+1):=by omega
   rw [ee] at hI ⊢
   exact step (i+1) d' (by simpa using hd) acc s hI
  rw [yQ,e]
  refine Wp.bnd (Wp.of_eq en ?_)
  rw [el]
  cases b with
  | false=>
   simp only [Bool.false_eq_true,if_false]
   exact Wp.lcI I ds (n+1) s1 acc (hf rfl) st
  | true=>
   simp only [if_true]
   obtain ⟨y,s2,e2,hi⟩:=ht rfl
   have en2:nox (me ls1) s1 = .ok y s2:=by unfold nox;rw [e2]
   refine Wp.bnd (Wp.of_eq en2 (Wp.bnd ?_))
   refine (Wp.lcI I ds (n+1) s2 (acc++[y]) hi st).mono fun ys s' q=>Wp.ok ?_
   rw [List.append_assoc] at q
   exact q
theorem Wp.lcE {mg:MG}{mt:bJ Bool}{me:bJ D}{ls:List Sl}{Q:List D→DS→Prop}(I:Nat→List D→DS→Prop) {ds:List D}{s:DS}(h0:I 0 [] s) (step:∀(i:Nat) (d:D),ds[i]?=some d→∀acc s,I i acc s→∃ls1,mg d ls=some ls1∧∃b s1,mt ls1 s = .ok b s1∧(b=true→Wp (me ls1 s1) fun y s'=>I (i+1) (acc++[y]) s')∧(b=false→I (i+1) acc s1))
  (fin:∀ys s',ys.length≤ds.length→I ds.length ys s'→Q ys s'):Wp (yQ mg mt me ds ls s) Q:=by
 obtain ⟨ys,s',e,h⟩:=Wp.lcI I ds 0 s [] h0 (fun i d hd acc s hI=>by rw [Nat.zero_add] at hI ⊢;exact step i d hd acc s hI)
 rw [Nat.zero_add] at h
 exact ⟨ys,s',e,fin ys s' (Ma e) h⟩
theorem Wp.lpI {mg:MG}{mb:MS}(I:Nat→List Sl→DS→Prop) :
  ∀(ds:List D) (n:Nat) (ls:List Sl) (s:DS),I n ls s→(∀(i:Nat) (d:D),ds[i]?=some d→∀ls s,I (n+i) ls s→∃ls1,mg d ls=some ls1∧Wp (mb ls1 s) fun f s'=>∃ls2,f = .nx ls2∧I (n+i+1) ls2 s')→Wp (fH mg mb ds ls s) fun f s'=>∃ls2,f = .nx ls2∧I (n+ds.length) ls2 s'
 | [],n,ls,s,h,_=>⟨_,_,rfl,ls,rfl,h⟩
 | d::ds,n,ls,s,h,step=>by
  obtain ⟨ls1,e,hw⟩:=step 0 d rfl ls s h
  have el:n+(d::ds).length=n+1+ds.length:=by simp only [List.length_cons];omega
  rw [fH,e,el]
  refine Wp.bnd (hw.mono fun f s' hh=> ?_)
  obtain ⟨ls2,rfl,hi⟩:=hh
  exact Wp.lpI I ds (n+1) ls2 s' hi fun i d' hd ls s hI=>by
   have ee:n+1+i=n+(i+1):=by omega
   rw [ee] at hI ⊢
   exact step (i+1) d' (by simpa using hd) ls s hI
theorem Wp.lp {mg:MG}{mb:MS}{Q:Fl→DS→Prop}(I:Nat→List Sl→DS→Prop) {ds:List D}{ls:List Sl}{s:DS}(h0:I 0 ls s) (step:∀(i:Nat) (d:D),ds[i]?=some d→∀ls s,I i ls s→∃ls1,mg d ls=some ls1∧Wp (mb ls1 s) fun f s'=>∃ls2,f = .nx ls2∧I (i+1) ls2 s')
  (fin:∀ls s,I ds.length ls s→Q (.nx ls) s):Wp (fH mg mb ds ls s) Q:=by
 refine (Wp.lpI I ds 0 ls s h0 fun i d hd ls s hI=> ?_).mono fun f s' hh=> ?_
 ·rw [Nat.zero_add] at hI ⊢
  exact step i d hd ls s hI
 ·obtain ⟨ls2,rfl,hi⟩:=hh
  rw [Nat.zero_add] at hi
  exact fin ls2 s' hi
theorem Wp.seq {m m':MS}{ls:List Sl}{s:DS}{Q:Fl→DS→Prop}(h:Wp (m ls s) fun f s'=>∃l,f = .nx l∧Wp (m' l s') Q):Wp (aR m m' ls s) Q:=by
 obtain ⟨f,s',e,l,rfl,h⟩:=h
 rw [aJ e]
 exact h
theorem mj {n i:Nat}{d:D}(h:(sV 0 n)[i]?=some d):i<n∧d = .int (i:Int):=by
 unfold sV at h
 rw [List.getElem?_map] at h
 obtain ⟨j,hj,rfl⟩:=Option.map_eq_some_iff.mp h
 have hi:i<n:=by simpa using (List.getElem?_eq_some_iff.mp hj).1
 rw [List.getElem?_range hi] at hj
 cases hj
 exact ⟨hi,by simp⟩
theorem gU (a:Int) (n:Nat):(sV a n).length=n:=by simp [sV]
theorem rN {n:Int}{s:DS}(h0:0≤n) (h1:n≤1000000):oJ [.int n] s = .ok (sV 0 n.toNat) s:=by
 have e:oJ [.int n]=ret (sV 0 n.toNat):=if_pos ⟨Int.le_trans (by decide) h0,Int.lt_of_le_of_lt h1 (by decide)⟩
 rw [e]
theorem yH {α:Type}{f:α→D}{xs:List α}{i:Int}(h0:0≤i) (h1:i<xs.length):∃x∈xs,atI (xs.map f) i=some (f x):=by
 have hl:i.toNat<xs.length:=by omega
 refine ⟨xs[i.toNat],List.getElem_mem hl,atI_nat h0 ?_⟩
 rw [List.getElem?_map,List.getElem?_eq_getElem hl]
 rfl
section
variable {ls:List Sl}{s:DS}
theorem Wp.cons {ma:bJ D}{ms:bJ (List D)}{Q:List D→DS→Prop}(h:Wp (ma ls s) fun d s'=>Wp (ms ls s') fun ds s2=>Q (d::ds) s2):Wp (ao ma ms ls s) Q:=by
 obtain ⟨d,s1,e1,ds,s2,e2,q⟩:=h
 exact ⟨_,_,by unfold ao;rw [aP e1,aP e2],q⟩
theorem Wp.pD {ma:bJ D}{Q:List D→DS→Prop}(h:Wp (ma ls s) fun d s'=>Q [d] s'):Wp (ao ma (fun _=>ret []) ls s) Q:=Wp.cons (h.mono fun _ _ q=>Wp.ok q)
theorem Wp.m2 {f:D→D→M D}{ma mb:bJ D}{Q:D→DS→Prop}(h:Wp (ma ls s) fun x s1=>Wp (mb ls s1) fun y s2=>Wp (f x y s2) Q):Wp (PV.m2 f ma mb ls s) Q:=by
 unfold PV.m2
 exact Wp.bnd (h.mono fun _ _ q=>Wp.bnd q)
theorem Wp.mL {m:bJ (List D)}{Q:D→DS→Prop}(h:Wp (m ls s) fun ds s'=>Q (.lst ds) s'):Wp (PV.mL m ls s) Q:=by
 unfold PV.mL
 exact Wp.bnd (h.mono fun _ _ q=>Wp.ok q)
theorem Wp.qK {vs:List Nat}{mi:bJ (List D)}{mg:MG}{mt:bJ Bool}{me:bJ D}{Q:List D→DS→Prop}(h:Wp (mi ls s) fun ds s'=>ds.length≤16777216∧Wp (yQ mg mt me ds (jA ls vs) s') Q):Wp (PV.qK vs mi mg mt me ls s) Q:=by
 unfold PV.qK
 refine Wp.bnd (h.mono fun ds s' q=> ?_)
 rw [if_pos (by rw [sizeLine_eq];exact q.1)]
 exact q.2
theorem Wp.rt {m:bJ D}{Q:Fl→DS→Prop}(h:Wp (m ls s) fun d s'=>Q (.rt d) s'):Wp (cW m ls s) Q:=by
 unfold cW
 exact Wp.bnd (h.mono fun _ _ q=>Wp.ok q)
theorem Wp.run {n:Nat}{mb:MS}{ds:List D}{Q:D→DS→Prop}(h:Wp (mb (argL n ds) s) fun f s'=>Wp (endF f s') Q):Wp (dG n mb ds s) Q:=Wp.bnd h
theorem Wp.ifS {n:bJ Bool}{m m':MS}{Q:Fl→DS→Prop}(h:Wp (n ls s) fun b s'=>(b=true→Wp (m ls s') Q)∧(b=false→Wp (m' ls s') Q)):Wp (eY n m m' ls s) Q:=by
 unfold eY
 refine Wp.bnd (h.mono fun b s' q=> ?_)
 cases b with
 | true=>exact q.1 rfl
 | false=>exact q.2 rfl
theorem Wp.or {n m:bJ Bool}{Q:Bool→DS→Prop}(h:Wp (n ls s) fun b s'=>(b=true→Q true s')∧(b=false→Wp (m ls s') Q)):Wp (J5 n m ls s) Q:=by
 unfold J5
 refine Wp.bnd (h.mono fun b s' q=> ?_)
 cases b with
 | true=>exact Wp.ok (q.1 rfl)
 | false=>exact q.2 rfl
theorem Wp.app {i:Nat}{me:bJ D}{ds:List D}{Q:Fl→DS→Prop}(hi:ls[i]?=some (.ow ds)) (hl:ds.length<16777216) (h:Wp (me ls s) fun d s'=>Q (.nx (ls.set i (.ow (ds++[d])))) s'):Wp (jC i me ls s) Q:=by
 unfold jC Mw
 rw [hi]
 refine Wp.bnd (h.mono fun d s' q=> ?_)
 rw [if_pos (by rw [sizeLine_eq];exact hl)]
 exact Wp.ok q
end
def kk (k:Int×Str):List Key:=[.inl k.1,.inr k.2]
end PV
namespace PV.ST
open PySem PySem.W L2 PyProof.Rows
mutual
def nkD:D→Option NK
 | .non=>some .none
 | .int i=>some (.num i)
 | .str x=>some (.text x)
 | .tup xs=>(nkL xs).map .tup
 | _=>none
def nkL:List D→Option (List NK)
 | []=>some []
 | x::xs=>match nkD x,nkL xs with
  | some k,some r=>some (k::r)
  | _,_=>none
end
mutual
def deK:NK→D
 | .none=> .non
 | .num i=> .int i
 | .text x=> .str x
 | .tup ks=> .tup (deL ks)
def deL:List NK→List D
 | []=>[]
 | k::ks=>deK k::deL ks
end
section
variable {X:Cx}{pins:List (Addr×Obj)}{σ:L2.St}{H:Hp}{s:Shared}
mutual
theorem JD (I:Inv X pins σ H s):∀{v:V}{d:D}{k:NK}{z:Value},Dv X.K H v d→nkD d=some k→RelV v z→NestedIs s.heap k z
 | _,_,_,_,.non,e,r=>by cases e;cases r;exact .none
 | _,_,_,_,.int i,e,r=>by cases e;obtain ⟨t,rfl⟩:=r;exact .int i t
 | _,_,_,_,.str x,e,r=>by cases e;obtain ⟨t,rfl⟩:=r;exact .text x t
 | _,_,_,_,.tup (ds:=ds) h q,e,r=>by
  unfold nkD at e
  cases e1:nkL ds with
  | none=>rw [e1] at e;cases e
  | some ks=>
   rw [e1] at e
   cases e
   cases r
   obtain ⟨its,rv,⟨o,ho,hc,n,hd⟩,_⟩:=I.tuple (SqT.of h)
   exact .tup ho hc hd (GJ I q e1 rv)
 | _,_,_,_,.bl _,e,_=>by cases e
 | _,_,_,_,.lst _ _,e,_=>by cases e
 | _,_,_,_,.qb _ _ _,e,_=>by cases e
 | _,_,_,_,.dcE _,e,_=>by cases e
 | _,_,_,_,.dcK _ _ _,e,_=>by cases e
 | _,_,_,_,.dcT _ _ _,e,_=>by cases e
 | _,_,_,_,.dcN _ _ _,e,_=>by cases e
 | _,_,_,_,.raw _,e,_=>by cases e
 | _,_,_,_,.scr _,e,_=>by cases e
 | _,_,_,_,.sref _,e,_=>by cases e
 | _,_,_,_,.exc _ _ _ _,e,_=>by cases e
theorem GJ (I:Inv X pins σ H s):∀{vs:List V}{ds:List D}{ks:List NK}{zs:List Value},DvL X.K H vs ds→nkL ds=some ks→Vals vs zs→NestedAll s.heap ks zs
 | _,_,_,_,.nil,e,r=>by cases e;cases r;exact .nil
 | _,_,_,_,.cons (d:=d) (ds:=ds) h q,e,r=>by
  unfold nkL at e
  cases h1:nkD d with
  | none=>rw [h1] at e;cases e
  | some k=>
   cases h2:nkL ds with
   | none=>rw [h1,h2] at e;cases e
   | some ks=>
    rw [h1,h2] at e
    cases e
    cases r with
    | cons r1 r2=>exact .cons (JD I h h1 r1) (GJ I q h2 r2)
end
def KeyAt (K:Frag) (H:Hp) (a:Addr) (k:NK):Prop:=Dv K H (.ref a) (deK k)∧nkD (deK k)=some k∧k.depth≤8
theorem KeyAt.is (I:Inv X pins σ H s) {a:Addr}{k:NK}(h:KeyAt X.K H a k):nIs X.prog X.w s.heap k a:=⟨JD I h.1 h.2.1 rfl,h.2.2⟩
end
end PV.ST
namespace PV
open PySem PySem.W PySem.Calls PyProof.Rows L2
variable {G:Gd}
inductive DvN (K:Frag) (H:Hp):List nM→List (NestedKey×D)→Prop
 | nil:DvN K H [] []
 | cons {k:NestedKey}{b:Addr}{v:V}{d:D}{es:List nM}{lvs:List (NestedKey×D)}:Dv K H v d→DvN K H es lvs→DvN K H ((k,b,v)::es) ((k,d)::lvs)
section
variable {K:Frag}{H H':Hp}
theorem DvN.of:∀{es:List nM}{ds:List D},DvL K H (es.map (·.2.2)) ds→DvN K H es ((es.map (·.1)).zip ds)
 | [],_,.nil=> .nil
 | (k,b,v)::es,_,.cons a r=> .cons a (DvN.of r)
theorem DvN.zip:∀{es:List nM}{lvs:List (NestedKey×D)},DvN K H es lvs→∃ds,DvL K H (es.map (·.2.2)) ds∧lvs=(es.map (·.1)).zip ds
 | _,_,.nil=>⟨[],.nil,rfl⟩
 | _,_,.cons (d:=d) a r=>by
  obtain ⟨ds,q,rfl⟩:=r.zip
  exact ⟨d::ds,.cons a q,rfl⟩
theorem DvN.mono (e:Sub H H'):∀{es:List nM}{lvs:List (NestedKey×D)},DvN K H es lvs→DvN K H' es lvs
 | _,_,.nil=> .nil
 | _,_,.cons a r=> .cons (a.mono e) (r.mono e)
theorem DvN.len:∀{es:List nM}{lvs:List (NestedKey×D)},DvN K H es lvs→es.length=lvs.length
 | _,_,.nil=>rfl
 | _,_,.cons _ r=>by simp [r.len]
theorem DvN.val (k:NestedKey):∀{es:List nM}{lvs:List (NestedKey×D)},DvN K H es lvs→(∀d,valD lvs k=some d→∃v,vK es k=some v∧Dv K H v d)∧(valD lvs k=none→vK es k=none)
 | _,_,.nil=>⟨fun d e=>(by cases e),fun _=>rfl⟩
 | _,_,.cons (k:=j) (b:=b) (v:=v) (d:=d) (es:=es) (lvs:=lvs) a r=>by
  have ih:=DvN.val k r
  by_cases hj:j=k
  ·have e1:valD ((j,d)::lvs) k=some d:=by simp [valD,hj]
   have e2:vK ((j,b,v)::es) k=some v:=by simp [vK,hj]
   rw [e1,e2]
   exact ⟨fun d' e=>(by cases e;exact ⟨v,rfl,a⟩),fun e=>(by cases e)⟩
  ·have e1:valD ((j,d)::lvs) k=valD lvs k:=by simp [valD,hj]
   have e2:vK ((j,b,v)::es) k=vK es k:=by simp [vK,hj]
   rw [e1,e2]
   exact ih
theorem DvN.some {es:List nM}{lvs:List (NestedKey×D)}(r:DvN K H es lvs) (k:NestedKey):(vK es k).isSome=(valD lvs k).isSome:=by
 obtain ⟨h1,h2⟩:=r.val k
 cases e:valD lvs k with
 | none=>rw [h2 e];rfl
 | some d=>
  obtain ⟨v,e2,_⟩:=h1 d e
  rw [e2];rfl
theorem Ov:∀(lvs:List (NestedKey×D)) (k:NestedKey),(lvs.any fun kv=>decide (kv.1=k))=(valD lvs k).isSome
 | [],_=>rfl
 | (j,d)::lvs,k=>by
  have ih:=Ov lvs k
  by_cases hj:j=k
  ·simp [valD,hj]
  ·have e1:valD ((j,d)::lvs) k=valD lvs k:=by simp [valD,hj]
   rw [e1,←ih]
   simp [hj]
theorem DvN.app {k:NestedKey}{b:Addr}{v:V}{d:D}(q:Dv K H v d):∀{es:List nM}{lvs:List (NestedKey×D)},DvN K H es lvs→DvN K H (es++[(k,b,v)]) (lvs++[(k,d)])
 | _,_,.nil=> .cons q .nil
 | _,_,.cons a r=> .cons a (DvN.app q r)
theorem DvN.rep {k:NestedKey}{v:V}{d:D}(q:Dv K H v d):∀{es:List nM}{lvs:List (NestedKey×D)},DvN K H es lvs→DvN K H (es.map fun x=>if x.1=k then (x.1,x.2.1,v) else x) (lvs.map fun kv=>if kv.1=k then (kv.1,d) else kv)
 | _,_,.nil=> .nil
 | _,_,.cons (k:=j) a r=>by
  rw [List.map_cons,List.map_cons]
  by_cases e:j=k
  ·rw [if_pos e,if_pos e]
   exact .cons q (DvN.rep q r)
  ·rw [if_neg e,if_neg e]
   exact .cons a (DvN.rep q r)
theorem DvN.put {k:NestedKey}{b:Addr}{v:V}{d:D}{es:List nM}{lvs:List (NestedKey×D)}(r:DvN K H es lvs) (q:Dv K H v d):DvN K H (JW es k b v) (Yy lvs k d):=by
 unfold JW Yy
 rw [Ov,r.some k]
 split
 ·exact r.rep q
 ·exact r.app q
end
variable {G:Gd}{T:List NdefX.NTab}
structure CalX (P:Program) (w:World) (K:Frag) (mg:Str→Option Value) (base:Heap) (T:List NdefX.NTab) (x:Str) (k n:Nat) (ps:List Str) (st:Stmt) (m:List D→M D):Prop where
 ex:∃(f:Addr) (fd:FuncData),FnG P w K mg base k f fd ps (Km K T n m)∧mg x=some (.ref f)∧keepIn K (.ref f)=true∧Binds K fd ps []∧FunD K x x (defArgs st) (defBody st) (defScope st) [] [] f fd
section
variable {P:Program}{w:World}{K:Frag}{mg:Str→Option Value}{base:Heap}{x:Str}{st:Stmt}{k n:Nat}{N ps ks:List Str}{pm:List Nat}{mb:MS}{m:List D→M D}
theorem CalX.cal (C:CalX P w K mg base T x k n ps st m):Cal P w K mg base T x k n m:=by
 obtain ⟨f,fd,h1,h2,h3,h4,_⟩:=C.ex
 exact ⟨f,fd,ps,h1,h2,h3,h4⟩
end
variable {G:Gd}
structure DefI (K:Frag) (mg:Str→Option Value) (x qual:Str) (C:Addr) (st:Stmt):Prop where
 gm:mg x=some (.ref C)
 ex:∃(f:Addr) (fd:FuncData),FunD K "__init__" qual (defArgs st) (defBody st) (defScope st) [] [] f fd∧Mk K C f
section
variable {P:Program}{w:World}{K:Frag}{mg:Str→Option Value}{base:Heap}{T:List NdefX.NTab}{x qual:Str}{C:Addr}{st:Stmt}{k:Nat}{N ps:List Str}{mb:MS}
theorem DefI.mk_ (F:DefI K mg x qual C st) (S:FnScope N ps (defScope st)) (hl:ps.length≤N.length)
  (hb:∀(kV doc pm:Value) (an:Option Addr) (cdv ct:Value) (us:List Value),us.length=ps.length→bindArgs (fnOf "__init__" qual (defArgs st) (defBody st) (defScope st) .none kV doc pm an cdv ct) ⟨us,[]⟩=pure (ps.zip us))
  (body:∀(f:Addr) (cdv:Value) (A:Around) (outer:List Env) (s:Shared) (H:Hp) (E:XK),RoomG k (A.deeper (envOfC qual (defScope st) s.heap.objs.size f cdv))→SSs (G0 T w) (cxOf (L2.CX P w) P w K mg base N qual (defScope st) f cdv A outer s H E) (EW E) (defBody st) mb) :
  MkM P w K mg base T x C (k+1) ps.length (dG N.length mb):=by
 obtain ⟨f,fd,D,M⟩:=F.ex
 exact ⟨F.gm,f,fd,ps,aa7 D S hl (body f),M,D.bindsN hb⟩
end
theorem ak {α β:Type}{m:M α}{f:α→M β}{s s':DS}{a:α}{r:Res β}(e:m s = .ok a s') (h:f a s'=r):bnd m f s=r:=by rw [aP e];exact h
mutual
def D.old (n:Nat):D→Bool
 | .lst xs=>D.fK n xs
 | .tup xs=>D.fK n xs
 | .qb xs=>D.fK n xs
 | .Ei kvs=>D.oldK n kvs
 | .DG kvs=>D.Gk n kvs
 | .dtn kvs=>D.LK n kvs
 | .exc _ fs=>D.zR n fs
 | .sref i=>decide (i<n)
 | .non=>true
 | .bl _=>true
 | .int _=>true
 | .str _=>true
 | .dct _=>true
 | .raw _=>true
 | .scr _=>true
def D.fK (n:Nat):List D→Bool
 | []=>true
 | d::ds=>D.old n d&&D.fK n ds
def D.oldK (n:Nat):List (Key×D)→Bool
 | []=>true
 | (_,d)::ds=>D.old n d&&D.oldK n ds
def D.Gk (n:Nat):List (List Key×D)→Bool
 | []=>true
 | (_,d)::ds=>D.old n d&&D.Gk n ds
def D.LK (n:Nat):List (NestedKey×D)→Bool
 | []=>true
 | (_,d)::ds=>D.old n d&&D.LK n ds
def D.zR (n:Nat):List (Str×D)→Bool
 | []=>true
 | (_,d)::ds=>D.old n d&&D.zR n ds
end
def Th.old (n:Nat):Th→Bool
 | .ins _ fs=>D.zR n fs
 | .dT kvs=>D.Gk n kvs
 | .dK kvs=>D.oldK n kvs
 | .lst ds=>D.fK n ds
 | .lT kvs=>D.Gk n kvs
 | .lK kvs=>D.oldK n kvs
def yu (objs:List Th) (n i:Nat):Option (List D):=match objs[i]? with
 | some (.lst ds)=>if D.fK n ds=true then some ds else none
 | _=>none
mutual
def D.resv (objs:List Th) (n:Nat):D→D
 | .lst xs=> .lst (D.dZ objs n xs)
 | .tup xs=> .tup (D.dZ objs n xs)
 | .qb xs=> .qb (D.dZ objs n xs)
 | .Ei kvs=> .Ei (D.Pg objs n kvs)
 | .DG kvs=> .DG (D.Oi objs n kvs)
 | .sref i=>if i<n then .sref i else (match yu objs n i with
  | some ds=> .lst ds
  | none=> .sref i)
 | .non=> .non
 | .bl b=> .bl b
 | .int i=> .int i
 | .str x=> .str x
 | .dct kvs=> .dct kvs
 | .dtn kvs=> .dtn kvs
 | .exc C fs=> .exc C fs
 | .raw v=> .raw v
 | .scr ns=> .scr ns
def D.dZ (objs:List Th) (n:Nat):List D→List D
 | []=>[]
 | d::ds=>D.resv objs n d::D.dZ objs n ds
def D.Pg (objs:List Th) (n:Nat):List (Key×D)→List (Key×D)
 | []=>[]
 | (k,d)::ds=>(k,D.resv objs n d)::D.Pg objs n ds
def D.Oi (objs:List Th) (n:Nat):List (List Key×D)→List (List Key×D)
 | []=>[]
 | (k,d)::ds=>(k,D.resv objs n d)::D.Oi objs n ds
end
theorem wX {n:Nat}:∀{ks:List Key}{ds:List D},ks.length=ds.length→D.oldK n (ks.zip ds)=D.fK n ds
 | [],[],_=>by simp [D.oldK,D.fK]
 | k::ks,d::ds,h=>by rw [List.zip_cons_cons,D.oldK,D.fK,wX (by simpa using h)]
theorem xT {n:Nat}:∀{ks:List (List Key)}{ds:List D},ks.length=ds.length→D.Gk n (ks.zip ds)=D.fK n ds
 | [],[],_=>by simp [D.Gk,D.fK]
 | k::ks,d::ds,h=>by rw [List.zip_cons_cons,D.Gk,D.fK,xT (by simpa using h)]
theorem Oe {n:Nat}:∀{ks:List NestedKey}{ds:List D},ks.length=ds.length→D.LK n (ks.zip ds)=D.fK n ds
 | [],[],_=>by simp [D.LK,D.fK]
 | k::ks,d::ds,h=>by rw [List.zip_cons_cons,D.LK,D.fK,Oe (by simpa using h)]
theorem Hg {n:Nat}:∀{ks:List Str}{ds:List D},ks.length=ds.length→D.zR n (ks.zip ds)=D.fK n ds
 | [],[],_=>by simp [D.zR,D.fK]
 | k::ks,d::ds,h=>by rw [List.zip_cons_cons,D.zR,D.fK,Hg (by simpa using h)]
theorem Kc {o:List Th}{n:Nat}:∀{ks:List Key}{ds:List D},ks.length=ds.length→D.Pg o n (ks.zip ds)=ks.zip (D.dZ o n ds)
 | [],[],_=>by simp [D.Pg,D.dZ]
 | k::ks,d::ds,h=>by rw [List.zip_cons_cons,D.Pg,D.dZ,List.zip_cons_cons,Kc (by simpa using h)]
theorem Kg {o:List Th}{n:Nat}:∀{ks:List (List Key)}{ds:List D},ks.length=ds.length→D.Oi o n (ks.zip ds)=ks.zip (D.dZ o n ds)
 | [],[],_=>by simp [D.Oi,D.dZ]
 | k::ks,d::ds,h=>by rw [List.zip_cons_cons,D.Oi,D.dZ,List.zip_cons_cons,Kg (by simpa using h)]
theorem Cv {o:List Th}{n:Nat}:∀{ds:List D},(D.dZ o n ds).length=ds.length
 | []=>by simp [D.dZ]
 | d::ds=>by rw [D.dZ,List.length_cons,List.length_cons,Cv]
noncomputable def uw (objs:List Th) (n:Nat) (B H:Hp):Hp:=fun a=>match B a with
 | some (.rng x y)=>if x.toNat<n then some (.rng x y) else (match yu objs n x.toNat with
  | some _=>H a
  | none=>none)
 | o=>o
section
variable {K:Frag}{objs:List Th}{n:Nat}{B H:Hp}
theorem cZ {a:Addr}{o:HO}(h:B a=some o) (g:o.gh=false):uw objs n B H a=some o:=by
 unfold uw
 rw [h]
 cases o<;>first | rfl | cases g
theorem qW {a:Addr}{i:Nat}(h:B a=some (mD i)) (g:i<n):uw objs n B H a=some (mD i):=by
 unfold uw
 rw [h]
 unfold mD
 dsimp only
 rw [if_pos (by rw [Int.toNat_natCast];exact g)]
theorem Bc {a:Addr}{i:Nat}{ds:List D}(h:B a=some (mD i)) (g:¬i<n) (e:yu objs n i=some ds):uw objs n B H a=H a:=by
 unfold uw
 rw [h]
 unfold mD
 dsimp only
 rw [if_neg (by rw [Int.toNat_natCast];exact g),Int.toNat_natCast,e]
theorem yw {a:Addr}(h:B a=none):uw objs n B H a=none:=by
 unfold uw
 rw [h]
mutual
theorem Dv.sO:∀{v:V}{d:D},Dv K B v d→d.old n=true→Dv K (uw objs n B H) v d
 | _,_,.non,_=> .non
 | _,_,.bl b,_=> .bl b
 | _,_,.int i,_=> .int i
 | _,_,.str x,_=> .str x
 | _,_,.lst h r,o=> .lst (cZ h rfl) (DvL.sO r (by rw [D.old] at o;exact o))
 | _,_,.tup h r,o=> .tup (cZ h rfl) (DvL.sO r (by rw [D.old] at o;exact o))
 | _,_,.qb h hd r,o=> .qb (cZ h rfl) hd (DvL.sO r (by rw [D.old] at o;exact o))
 | _,_,.dcE h,_=> .dcE (cZ h rfl)
 | _,_,.dcK h l r,o=> .dcK (cZ h rfl) l (DvL.sO r (by rw [D.old,wX (by rw [l,r.len])] at o;exact o))
 | _,_,.dcT h l r,o=> .dcT (cZ h rfl) l (DvL.sO r (by rw [D.old,xT (by rw [l,r.len])] at o;exact o))
 | _,_,.dcN h l r,o=> .dcN (cZ h rfl) (l.mono fun _ _ e=>cZ e rfl) (DvL.sO r (by
   rw [D.old,Oe (by have:=r.len;rw [List.length_map] at this ⊢;exact this)] at o
   exact o))
 | _,_,.raw v,_=> .raw v
 | _,_,.scr h,_=> .scr (by
   rcases h with h | h
   ·left
    rcases h with h | ⟨o,h⟩
    ·exact .inl (cZ h rfl)
    ·exact .inr ⟨o,cZ h rfl⟩
   ·exact .inr h)
 | _,_,.sref h,o=> .sref (qW h (by rw [D.old] at o;exact of_decide_eq_true o))
 | _,_,.exc (od:=od) h x l r,o=> .exc (cZ h rfl) (by
   cases od with
   | none=>exact x
   | some dx=>exact cZ (show B dx=_ from x) rfl) l (DvL.sO r (by rw [D.old,Hg (by rw [l,r.len])] at o;exact o))
theorem DvL.sO:∀{vs:List V}{ds:List D},DvL K B vs ds→D.fK n ds=true→DvL K (uw objs n B H) vs ds
 | _,_,.nil,_=> .nil
 | _,_,.cons a r,o=>by
  rw [D.fK,Bool.and_eq_true] at o
  exact .cons (Dv.sO a o.1) (DvL.sO r o.2)
end
end
section
variable {W:Wd}{K:Frag}{s:DS}{n:Nat}{B H:Hp}
mutual
theorem Dv.res (w:W.ok s B H) (e:W.fr=K):∀{v:V}{d:D},Dv K B v d→(d.resv s.objs n).old n=true→Dv K (uw s.objs n B H) v (d.resv s.objs n)
 | _,_,.non,_=>by rw [D.resv];exact .non
 | _,_,.bl b,_=>by rw [D.resv];exact .bl b
 | _,_,.int i,_=>by rw [D.resv];exact .int i
 | _,_,.str x,_=>by rw [D.resv];exact .str x
 | _,_,.lst h r,o=>by
  rw [D.resv] at o ⊢
  rw [D.old] at o
  exact .lst (cZ h rfl) (DvL.res w e r o)
 | _,_,.tup h r,o=>by
  rw [D.resv] at o ⊢
  rw [D.old] at o
  exact .tup (cZ h rfl) (DvL.res w e r o)
 | _,_,.qb h hd r,o=>by
  rw [D.resv] at o ⊢
  rw [D.old] at o
  exact .qb (cZ h rfl) hd (DvL.res w e r o)
 | _,_,.dcE h,o=>by
  have q:=Dv.sO (objs:=s.objs) (n:=n) (H:=H) (K:=K) (.dcE h) (by rw [D.old])
  rw [D.resv];exact q
 | _,_,.dcK h l r,o=>by
  have ll:=r.len
  rw [D.resv,Kc (by omega)] at o ⊢
  rw [D.old,wX (by rw [Cv];omega)] at o
  exact .dcK (cZ h rfl) l (DvL.res w e r o)
 | _,_,.dcT h l r,o=>by
  have ll:=r.len
  rw [D.resv,Kg (by omega)] at o ⊢
  rw [D.old,xT (by rw [Cv];omega)] at o
  exact .dcT (cZ h rfl) l (DvL.res w e r o)
 | _,_,.dcN h l r,o=>by
  have q:=fun a=>Dv.sO (objs:=s.objs) (n:=n) (H:=H) (K:=K) (.dcN h l r) a
  rw [D.resv] at o ⊢;exact q o
 | _,_,.raw v,_=>by rw [D.resv];exact .raw v
 | _,_,.scr h,o=>by
  have q:=fun a=>Dv.sO (objs:=s.objs) (n:=n) (H:=H) (K:=K) (.scr h) a
  rw [D.resv] at o ⊢;exact q o
 | _,_,.sref (i:=i) h,o=>by
  rw [D.resv] at o ⊢
  by_cases hi:i<n
  ·rw [if_pos hi]
   exact .sref (qW h hi)
  ·rw [if_neg hi] at o ⊢
   cases el:yu s.objs n i with
   | none=>
    rw [el] at o
    rw [show (match (none:Option (List D)) with | some ds=>D.lst ds | none=>D.sref i)=D.sref i from rfl,D.old] at o
    exact absurd (of_decide_eq_true o) hi
   | some ds=>
    have el0:=el
    unfold yu at el
    split at el
    ·rename_i ds' ei
     split at el
     ·rename_i ho
      cases el
      obtain ⟨p,hb,nv,vs,hp,r⟩:=w.st_.at_ i _ ei
      obtain rfl:=w.st_.one _ _ i hb h
      refine .lst (xs:=vs) (by rw [Bc h hi el0];exact hp) ?_
      rw [←e]
      exact DvL.sO r ho
     ·cases el
    ·cases el
 | _,_,.exc h x l r,o=>by
  have q:=fun a=>Dv.sO (objs:=s.objs) (n:=n) (H:=H) (K:=K) (.exc h x l r) a
  rw [D.resv] at o ⊢;exact q o
theorem DvL.res (w:W.ok s B H) (e:W.fr=K):∀{vs:List V}{ds:List D},DvL K B vs ds→D.fK n (D.dZ s.objs n ds)=true→DvL K (uw s.objs n B H) vs (D.dZ s.objs n ds)
 | _,_,.nil,_=>by rw [D.dZ];exact .nil
 | _,_,.cons a r,o=>by
  rw [D.dZ] at o ⊢
  rw [D.fK,Bool.and_eq_true] at o
  exact .cons (Dv.res w e a o.1) (DvL.res w e r o.2)
end
end
def vQ (n:Nat):List Th→Bool
 | []=>true
 | t::ts=>t.old n&&vQ n ts
theorem Ms {n:Nat}:∀{ts:List Th}{i:Nat}{t:Th},vQ n ts=true→ts[i]?=some t→t.old n=true
 | [],_,_,_,e=>by simp at e
 | t::ts,0,_,h,e=>by
  rw [vQ,Bool.and_eq_true] at h
  cases e
  exact h.1
 | t::ts,i+1,_,h,e=>by
  rw [vQ,Bool.and_eq_true] at h
  exact Ms h.2 (by simpa using e)
def zF (n:Nat):Res D→Res D
 | .ok d s'=>if (d.resv s'.objs n).old n=true∧vQ n (s'.objs.take n)=true then .ok (d.resv s'.objs n) { s' with objs:=s'.objs.take n} else .ok d s'
 | r=>r
def Ww (m:List D→M D):List D→M D:=fun ds s=>zF s.objs.length (m ds s)
section
variable {W:Wd}{K:Frag}{s s':DS}{n:Nat}{B H B' H':Hp}
theorem Ek.cut (o:Th) {p:Addr}(h:Ek W B H p o) (k:o.old n=true) {objs:List Th}{H2:Hp}:Ek W (uw objs n B H2) H p o:=by
 cases o with
 | ins C fs=>
  obtain ⟨dx,ns,vs,ds,a,l,r,rfl⟩:=h
  exact ⟨dx,ns,vs,ds,a,l,r.sO (by rw [Th.old,Hg (by rw [l,r.len])] at k;exact k),rfl⟩
 | dT kvs=>
  obtain ⟨ks,vs,ds,a,l,r,rfl⟩:=h
  exact ⟨ks,vs,ds,a,l,r.sO (by rw [Th.old,xT (by rw [l,r.len])] at k;exact k),rfl⟩
 | dK kvs=>
  obtain ⟨ks,vs,ds,a,l,r,rfl⟩:=h
  exact ⟨ks,vs,ds,a,l,r.sO (by rw [Th.old,wX (by rw [l,r.len])] at k;exact k),rfl⟩
 | lst ds=>
  obtain ⟨vs,a,r⟩:=h
  exact ⟨vs,a,r.sO (by rw [Th.old] at k;exact k)⟩
 | lT kvs=>
  obtain ⟨od,ks,vs,ds,a,l,r,rfl⟩:=h
  exact ⟨od,ks,vs,ds,a,l,r.sO (by rw [Th.old,xT (by rw [l,r.len])] at k;exact k),rfl⟩
 | lK kvs=>
  obtain ⟨od,ks,vs,ds,a,l,r,rfl⟩:=h
  exact ⟨od,ks,vs,ds,a,l,r.sO (by rw [Th.old,wX (by rw [l,r.len])] at k;exact k),rfl⟩
theorem vp {objs:List Th}{a:Addr}{i:Nat}(w:W.ok s' B' H') (e:uw s'.objs n B' H' a=some (mD i)):B' a=some (mD i)∧i<n:=by
 cases eb:B' a with
 | none=>rw [yw eb] at e;cases e
 | some o=>
  cases g:o.gh with
  | false=>rw [cZ eb g] at e;cases e;cases g
  | true=>
   obtain ⟨j,rfl,hj⟩:=w.st_.tk a o eb g
   by_cases hn:j<n
   ·rw [qW eb hn] at e
    have:=yI (Option.some.inj e)
    subst this
    exact ⟨rfl,hn⟩
   ·cases el:yu s'.objs n j with
    | none=>
     unfold uw at e
     rw [eb] at e
     unfold mD at e
     dsimp only at e
     rw [if_neg (by rw [Int.toNat_natCast];exact hn),Int.toNat_natCast,el] at e
     cases e
    | some ds=>
     rw [Bc eb hn el] at e
     unfold yu at el
     split at el
     ·rename_i ds' ei
      obtain ⟨p,hb,nv,vs,hp,r⟩:=w.st_.at_ j _ ei
      obtain rfl:=w.st_.one _ _ j hb eb
      rw [hp] at e
      cases e
     ·cases el
theorem aaA (w0:W.ok s B H) (g:Gr W B H B' H') (w:W.ok s' B' H') (ho:vQ s.objs.length (s'.objs.take s.objs.length)=true):Gr W B H (uw s'.objs s.objs.length B' H') H'∧W.ok { s' with objs:=s'.objs.take s.objs.length} (uw s'.objs s.objs.length B' H') H':=by
 have hB:∀a o,B a=some o→uw s'.objs s.objs.length B' H' a=some o:=fun a o e=>by
  have e1:=g.bb a o e
  cases gg:o.gh with
  | false=>exact cZ e1 gg
  | true=>
   obtain ⟨i,rfl,hi⟩:=w0.st_.tk a o e gg
   exact qW e1 hi
 refine ⟨⟨fun a o e=> ?_,fun a o e=>hB a o e,g.hx,fun a o e im=> ?_⟩,⟨fun p q=>let z:=w.dr p q;⟨z.m,z.c,z.g,z.ne⟩,w.tb,w.at_,⟨fun i o e=> ?_,fun p q i a b=> ?_,fun p o e gg=> ?_⟩⟩⟩
 ·cases eb:B' a with
  | none=>rw [yw eb] at e;cases e
  | some u=>
   cases gu:u.gh with
   | false=>
    rw [cZ eb gu] at e
    cases e
    exact g.kn a _ eb
   | true=>
    obtain ⟨j,rfl,hj⟩:=w.st_.tk a u eb gu
    by_cases hn:j<s.objs.length
    ·rw [qW eb hn] at e
     cases e
     exact g.kn a _ eb
    ·cases el:yu s'.objs s.objs.length j with
     | none=>
      unfold uw at e
      rw [eb] at e
      unfold mD at e
      dsimp only at e
      rw [if_neg (by rw [Int.toNat_natCast];exact hn),Int.toNat_natCast,el] at e
      cases e
     | some ds=>
      rw [Bc eb hn el] at e
      unfold yu at el
      split at el
      ·rename_i ds' ei
       obtain ⟨p,hb,nv,vs,hp,r⟩:=w.st_.at_ j _ ei
       obtain rfl:=w.st_.one _ _ j hb eb
       rw [hp] at e
       cases e
       exact ⟨nv,Or.inl ⟨rfl,hp⟩⟩
      ·cases el
 ·have e1:=g.nw a o e im
  rw [←e1]
  cases eb:B' a with
  | none=>exact yw eb
  | some u=>
   rw [eb] at e1
   exact hB a u e1.symm
 ·have hi:i<s.objs.length∧s'.objs[i]?=some o:=by
   have h1:i<(s'.objs.take s.objs.length).length:=(List.getElem?_eq_some_iff.mp e).1
   have h2:i<s.objs.length:=by rw [List.length_take] at h1;omega
   exact ⟨h2,by rw [List.getElem?_take_of_lt h2] at e;exact e⟩
  obtain ⟨p,hb,nv,so⟩:=w.st_.at_ i o hi.2
  exact ⟨p,qW hb hi.1,nv,so.cut o (Ms ho e)⟩
 ·exact w.st_.one p q i (vp (objs:=[]) w a).1 (vp (objs:=[]) w b).1
 ·have:∃i,o=mD i:=by
   cases eb:B' p with
   | none=>rw [yw eb] at e;cases e
   | some u=>
    cases gu:u.gh with
    | false=>rw [cZ eb gu] at e;cases e;rw [gu] at gg;cases gg
    | true=>
     obtain ⟨j,rfl,hj⟩:=w.st_.tk p u eb gu
     by_cases hn:j<s.objs.length
     ·rw [qW eb hn] at e;cases e;exact ⟨j,rfl⟩
     ·cases el:yu s'.objs s.objs.length j with
      | none=>
       unfold uw at e
       rw [eb] at e
       unfold mD at e
       dsimp only at e
       rw [if_neg (by rw [Int.toNat_natCast];exact hn),Int.toNat_natCast,el] at e
       cases e
      | some ds=>
       rw [Bc eb hn el] at e
       unfold yu at el
       split at el
       ·rename_i ds' ei
        obtain ⟨q,hb,nv,vs,hp,r⟩:=w.st_.at_ j _ ei
        obtain rfl:=w.st_.one _ _ j hb eb
        rw [hp] at e
        cases e
        cases gg
       ·cases el
  obtain ⟨i,rfl⟩:=this
  obtain ⟨h1,h2⟩:=vp (objs:=[]) w e
  obtain ⟨j,ej,hj⟩:=w.st_.tk p _ h1 rfl
  have:=yI ej
  subst this
  refine ⟨i,rfl,?_⟩
  show i<(s'.objs.take s.objs.length).length
  rw [List.length_take]
  omega
theorem Ans.res {Q:VK}{E:XK}(w0:W.ok s B H) (ef:W.fr=K) {r:Res D}(h:Ans W K B H (zF s.objs.length r) Q E):Ans W K B H r Q E:=by
 cases r with
 | stuck=>exact h
 | exc C fs s'=>exact h
 | ok d s'=>
  unfold zF at h
  dsimp only at h
  split at h
  ·rename_i hc
   intro v B' H' g w r
   obtain ⟨g2,w2⟩:=aaA w0 g w hc.2
   exact h v _ H' g2 w2 (r.res w ef hc.1)
  ·exact h
end
theorem Cal.res {P:Program}{w:World}{K:Frag}{mg:Str→Option Value}{base:Heap}{T:List NdefX.NTab}{x:Str}{k n:Nat}{m:List D→M D}(C:Cal P w K mg base T x k n m):Cal P w K mg base T x k n (Ww m):=by
 obtain ⟨f,fd,ps,F,h1,h2,h3⟩:=C.ex
 exact ⟨f,fd,ps,F.imp fun vs H Q E ⟨hl,W,B,s,ds,et,kn,wk,r,a⟩=>⟨hl,W,B,s,ds,et,kn,wk,r,Ans.res wk et.2 a⟩,h1,h2,h3⟩
variable {G:Gd}
section
variable {X:Cx}
def RK:List D→M D
 | [.int i,.int j]=>ret (.int (if j<i then j else i))
 | _=>stk
theorem abk (hc:X.calm=true):Cl X (.builtin "min") RK:=by
 refine ⟨_,call_min2 hc,fun W B H s vs ds Q E k w r h=> ?_⟩
 unfold RK at h
 split at h
 ·cases r with
  | cons a r=>
   cases r with
   | cons b r=>
    cases r
    exact ⟨_,_,by rw [a.int,b.int],h.bU k w (.int _)⟩
 ·exact (show False from h).elim
end
end PV
namespace PV
open PySem PySem.W PySem.Calls PySem.Spec PyProof.Rows L2
variable {G:Gd}
def uf:List D→Option (List Str)
 | []=>some []
 | .str x::r=>(uf r).map (x :: ·)
 | _::_=>none
theorem JG:∀ys:List Str,uf (ys.map D.str)=some ys
 | []=>rfl
 | y::ys=>by
  show (uf (ys.map D.str)).map (y :: ·)=_
  rw [JG ys]
  rfl
theorem Gx {K:Frag}{B:Hp}:∀{vs:List V}{ds:List D}{ys:List Str},DvL K B vs ds→uf ds=some ys→vs=ys.map V.str∧ds=ys.map D.str
 | _,_,ys,.nil,e=>by
  cases e
  exact ⟨rfl,rfl⟩
 | _,_,ys,.cons (d:=d) h t,e=>by
  cases d with
  | str x=>
   cases h
   obtain ⟨ys',e1,rfl⟩:=Option.map_eq_some_iff.mp (show (uf _).map (x :: ·)=some ys from e)
   obtain ⟨h1,h2⟩:=Gx t e1
   rw [h1,h2]
   exact ⟨rfl,rfl⟩
  | _=>cases e
theorem Sv {K:Frag}{B:Hp}:∀ys:List Str,DvL K B (ys.map V.str) (ys.map D.str)
 | []=> .nil
 | y::ys=> .cons (.str y) (Sv ys)
def RN (a:Str) (d:D):M D:=match d with
 | .lst xs=>(match uf xs with
  | some ys=>if (ys.map (·.length)).sum+ys.length*a.length≤16777216 then ret (.str (Txt.join a ys)) else stk
  | none=>stk)
 | .tup xs=>(match uf xs with
  | some ys=>if (ys.map (·.length)).sum+ys.length*a.length≤16777216 then ret (.str (Txt.join a ys)) else stk
  | none=>stk)
 | _=>stk
def rE (mo me:bJ D):bJ D:=fun ls=>bnd (mo ls) fun x=>match x with
 | .str a=>bnd (me ls) fun y=>RN a y
 | _=>stk
def VH (a b:Str):M (List D):=if (b.length==0)=false∧a.length+2≤sizeLine then ret ((Txt.split a b).map .str) else stk
def G9 (mo me:bJ D):bJ (List D):=fun ls=>bnd (mo ls) fun x=>match x with
 | .str a=>bnd (me ls) fun y=>(match y with
  | .str b=>VH a b
  | _=>stk)
 | _=>stk
section
variable {X:Cx}{Wx:WX}{o e:Expr}{mo me:bJ D}{apos pos:Pos}{k:Nat}
theorem pQ (ho:SO G X Wx o mo) (he:SO G X Wx e me) (hs:starEach [e] X.env=[(false,eval e X.env)]:=by rfl) (hbase:attributeBase o "join" X.env (eval o X.env)=eval o X.env:=by rfl) (hline:(apos.endLine==pos.line)=true:=by rfl) :
  SE G X Wx (.Call (.Attribute o "join" apos) [e] [] pos) (rE mo me):=by
 obtain ⟨ta,pa,ho⟩:=ho.ex
 obtain ⟨tb,pb,he⟩:=he.ex
 refine ⟨_,pe_join pa pb hs hbase hline,fun W H0 σ B H ls s Q k w sm h=> ?_⟩
 unfold rE at h
 refine ho W H0 σ B H ls s _ k w sm (h.gD fun dx s1 x B1 H1 g1 w1 rx h1=> ?_)
 cases dx with
 | str a=>
  have ex:=rx.str
  refine ⟨⟨a,ex⟩,he W H0 σ B1 H1 ls s1 _ g1.kn w1 (sm.grow g1) ((show Ans W X.K B1 H1 (bnd (me ls) (fun y=>RN a y) s1) Q _ from h1).gD fun dy s2 y B2 H2 g2 w2 ry h2=> ?_)⟩
  cases dy with
  | lst xs=>
   obtain ⟨p,vs,rfl,hp,r1⟩:=ry.w.lst g2.kn
   cases ey:uf xs with
   | none=>
    replace h2:Ans W X.K B2 H2 ((match uf xs with
     | some ys=>if (ys.map (·.length)).sum+ys.length*a.length≤16777216 then ret (D.str (Txt.join a ys)) else stk
     | none=>stk:M D) s2) Q _:=h2
    rw [ey] at h2
    exact (show False from h2).elim
   | some ys=>
    replace h2:Ans W X.K B2 H2 ((match uf xs with
     | some ys=>if (ys.map (·.length)).sum+ys.length*a.length≤16777216 then ret (D.str (Txt.join a ys)) else stk
     | none=>stk:M D) s2) Q _:=h2
    rw [ey] at h2
    replace h2:Ans W X.K B2 H2 ((if (ys.map (·.length)).sum+ys.length*a.length≤16777216 then ret (D.str (Txt.join a ys)) else stk:M D) s2) Q _:=h2
    split at h2
    ·rename_i hz
     obtain ⟨e1,_⟩:=Gx r1 ey
     exact ⟨a,p,ys,ex,rfl,.inl (by rw [←e1];exact SqL.of hp),hz,h2.bU g2.kn w2 (.str _)⟩
    ·exact (show False from h2).elim
  | tup xs=>
   obtain ⟨p,vs,rfl,hp,r1⟩:=ry.w.tup
   cases ey:uf xs with
   | none=>
    replace h2:Ans W X.K B2 H2 ((match uf xs with
     | some ys=>if (ys.map (·.length)).sum+ys.length*a.length≤16777216 then ret (D.str (Txt.join a ys)) else stk
     | none=>stk:M D) s2) Q _:=h2
    rw [ey] at h2
    exact (show False from h2).elim
   | some ys=>
    replace h2:Ans W X.K B2 H2 ((match uf xs with
     | some ys=>if (ys.map (·.length)).sum+ys.length*a.length≤16777216 then ret (D.str (Txt.join a ys)) else stk
     | none=>stk:M D) s2) Q _:=h2
    rw [ey] at h2
    replace h2:Ans W X.K B2 H2 ((if (ys.map (·.length)).sum+ys.length*a.length≤16777216 then ret (D.str (Txt.join a ys)) else stk:M D) s2) Q _:=h2
    split at h2
    ·rename_i hz
     obtain ⟨e1,_⟩:=Gx r1 ey
     exact ⟨a,p,ys,ex,rfl,.inr (by rw [←e1];exact g2.kn.t hp),hz,h2.bU g2.kn w2 (.str _)⟩
    ·exact (show False from h2).elim
  | _=>exact (show False from h2).elim
 | _=>exact (show False from h1).elim
theorem Gp (ho:SO G X Wx o mo) (he:SO G X Wx e me) (hs:starEach [e] X.env=[(false,eval e X.env)]:=by rfl) (hbase:attributeBase o "split" X.env (eval o X.env)=eval o X.env:=by rfl) (hline:(apos.endLine==pos.line)=true:=by rfl) :
  SL G X Wx (.Call (.Attribute o "split" apos) [e] [] pos) (G9 mo me):=by
 obtain ⟨ta,pa,ho⟩:=ho.ex
 obtain ⟨tb,pb,he⟩:=he.ex
 refine ⟨_,pe_split pa pb hs hbase hline,fun W H0 σ B H ls s Q k w sm h=> ?_⟩
 unfold G9 at h
 refine ho W H0 σ B H ls s _ k w sm (h.gD fun dx s1 x B1 H1 g1 w1 rx h1=> ?_)
 cases dx with
 | str a=>
  have ex:=rx.str
  refine ⟨⟨a,ex⟩,he W H0 σ B1 H1 ls s1 _ g1.kn w1 (sm.grow g1) ((show pX W X.K B1 H1 (bnd (me ls) (fun y=>match y with
   | .str b=>VH a b
   | _=>stk) s1) Q _ from h1).gD fun dy s2 y B2 H2 g2 w2 ry h2=> ?_)⟩
  cases dy with
  | str b=>
   have ey:=ry.str
   replace h2:pX W X.K B2 H2 ((if (b.length==0)=false∧a.length+2≤sizeLine then ret ((Txt.split a b).map .str) else stk:M (List D)) s2) Q _:=h2
   split at h2
   ·rename_i hz
    exact ⟨a,b,ex,by rw [ey],hz.1,hz.2,fun p hp=>h2.bU g2.kn w2 hp (Sv _)⟩
   ·exact (show False from h2).elim
  | _=>exact (show False from h2).elim
 | _=>exact (show False from h1).elim
end
def TF:List D→M D
 | [.int i]=>if i.natAbs.log2<1920 then ret (.str (toString i)) else stk
 | [.str a]=>ret (.str a)
 | _=>stk
theorem V6 {X:Cx}:Cl X (.type "str") TF:=by
 refine ⟨_,call_str_int.or SkE.call_str_str,fun W B H s vs ds Q E k w r h=> ?_⟩
 unfold TF at h
 split at h
 ·rename_i i
  cases r with
  | cons a r=>
   cases r
   split at h
   ·rename_i hz
    exact Or.inl ⟨i,by rw [a.int],hz,h.bU k w (.str _)⟩
   ·exact (show False from h).elim
 ·rename_i x
  cases r with
  | cons a r=>
   cases r
   exact Or.inr ⟨x,by rw [a.str],h.bU k w (.str _)⟩
 ·exact (show False from h).elim
def Jd (d:D):M D:=match d with
 | .str y=>if y.length≤sizeLine then ret (.str y) else stk
 | .int i=>if i.natAbs.log2<1920 then ret (.str (toString i)) else stk
 | _=>stk
def Yl:List (bJ D)→Str→bJ D
 | [],acc=>fun _=>ret (.str acc)
 | m::ms,acc=>fun ls=>bnd (m ls) fun d=>match d with
  | .str y=>if (acc++y).length≤sizeLine then Yl ms (acc++y) ls else stk
  | _=>stk
section
variable {X:Cx}{Wx:WX}{e v1 v2:Expr}{es:List Expr}{me:bJ D}{ms:List (bJ D)}{pos:Pos}{k:Nat}
theorem Cm (he:SO G X Wx e me):SE G X Wx (.FormattedValue e (-1) none pos) (fun ls=>bnd (me ls) Jd):=by
 obtain ⟨t,p,he⟩:=he.ex
 refine ⟨_,pe_fmt p,fun W H0 σ B H ls s Q k w sm h=> ?_⟩
 refine he W H0 σ B H ls s _ k w sm (h.gD fun dx s1 x B1 H1 g1 w1 rx h1=> ?_)
 unfold Jd at h1
 cases dx with
 | str y=>
  replace h1:Ans W X.K B1 H1 ((if y.length≤sizeLine then ret (.str y) else stk:M D) s1) Q _:=h1
  split at h1
  ·rename_i hz
   exact .inl ⟨y,rx.str,hz,h1.bU g1.kn w1 (.str _)⟩
  ·exact (show False from h1).elim
 | int i=>
  replace h1:Ans W X.K B1 H1 ((if i.natAbs.log2<1920 then ret (.str (toString i)) else stk:M D) s1) Q _:=h1
  split at h1
  ·rename_i hz
   exact .inr ⟨i,rx.int,hz,h1.bU g1.kn w1 (.str _)⟩
  ·exact (show False from h1).elim
 | _=>exact (show False from h1).elim
structure SJ (G:Gd) (X:Cx) (Wx:WX) (es:List Expr) (ms:List (bJ D)):Prop where
 ex:∃ts,PJ X es ts∧∀(W:Wd) (H0:Hp) (σ:L2.St) (acc:Str) (B H:Hp) (ls:List Sl) (s:DS) (Q:VK),Kn W B H→W.ok s B H→Sm G W X.K H0 B H σ ls→Ans W X.K B H (Yl ms acc ls s) Q (fun c d H'=>Wx c d σ H')→tJs ts acc σ H fun out H1=>Q (.str out) H1
theorem W8:SJ G X Wx [] []:=⟨[],.nil,fun W H0 σ acc B H ls s Q k w sm h=>by
 show Q (.str acc) H
 exact Ans.bU (show Ans W X.K B H (.ok (.str acc) s) Q _ from h) k w (.str _)⟩
theorem nY (he:SE G X Wx e me) (hr:SJ G X Wx es ms):SJ G X Wx (e::es) (me::ms):=by
 obtain ⟨t,p,he⟩:=he.ex
 obtain ⟨ts,ps,hr⟩:=hr.ex
 refine ⟨t::ts,.cons p ps,fun W H0 σ acc B H ls s Q k w sm h=> ?_⟩
 show t σ H fun x H1=>∃y:Str,x = .str y∧(acc++y).length≤sizeLine∧tJs ts (acc++y) σ H1 fun out H1=>Q (.str out) H1
 refine he W H0 σ B H ls s _ k w sm ?_
 replace h:Ans W X.K B H (bnd (me ls) (fun d=>match d with
  | .str y=>if (acc++y).length≤sizeLine then Yl ms (acc++y) ls else stk
  | _=>stk) s) Q (fun c d H'=>Wx c d σ H'):=h
 refine h.bind fun dx s1 x B1 H1 g1 w1 rx h1=> ?_
 cases dx with
 | str y=>
  replace h1:Ans W X.K B1 H1 ((if (acc++y).length≤sizeLine then Yl ms (acc++y) ls else stk:M D) s1) Q (fun c d H'=>Wx c d σ H'):=h1
  split at h1
  ·rename_i hz
   exact ⟨y,(show Dw X.K B1 H1 x (.str y) from rx.w).str,hz,hr W H0 σ (acc++y) B1 H1 ls s1 Q g1.kn w1 (sm.grow g1) h1⟩
  ·exact (show False from h1).elim
 | _=>exact (show False from h1).elim
theorem Td (h:SJ G X Wx (v1::v2::es) ms):SE G X Wx (.JoinedStr (v1::v2::es) pos) (Yl ms Str.empty):=by
 obtain ⟨ts,ps,h⟩:=h.ex
 exact ⟨_,pe_joined ps,fun W H0 σ B H ls s Q k w sm q=>h W H0 σ Str.empty B H ls s Q k w sm q⟩
end
end PV
namespace PV
open PySem PySem.W PySem.Calls PyProof.Rows L2
variable {G:Gd}
def JK (Cs:List Addr) (f:Str) (j:Int) (mo:bJ D):MS:=fun ls=>bnd (mo ls) fun o=>fun s=>match o with
 | .sref i=>match s.objs[i]? with
  | some (.ins C fs)=>if C∈Cs∧fs.length<1000 then (match U3 f fs with
   | some (.int n)=> .ok (.nx ls) (s.put i (.ins C (Jr f (.int (n+j)) fs)))
   | _=> .stuck) else .stuck
  | _=> .stuck
 | _=> .stuck
section
variable {X:Cx}{Wx:WX}{e o:Expr}{mo:bJ D}{f:Str}{pos tpos:Pos}{Cs:List Addr}{j:Int}
theorem Q8 (hc:∀C∈Cs,Br X.K C f) (ho:SE G X Wx o mo) (hv:SE G X Wx e (fun _=>ret (.int j))):SS G X Wx (.AugAssign (.Attribute o f tpos) .Add e pos) (JK Cs f j mo):=by
 obtain ⟨tv,pv,hv⟩:=hv.ex
 obtain ⟨t,pt,ht⟩:=ho.ex
 refine ⟨_,ps_fldaug pt pv in_add,fun W B0 H0 σ B H ls s D g w sm h=> ?_⟩
 refine ht W H0 σ B H ls s _ g.kn w sm (h.bind g fun o s2 x B2 H2 g3 g4 w2 r2 h2=> ?_)
 split at h2
 ·rename_i i
  split at h2
  ·rename_i C fs ei
   split at h2
   ·rename_i hC
    cases el:U3 f fs with
    | none=>rw [el] at h2;exact (show False from h2).elim
    | some d2=>
     cases d2 with
     | int n=>
      rw [el] at h2
      obtain ⟨a,rfl,hb,nv,dx,ns,vs,ds,hp,l,r,rfl⟩:=w2.thing r2 ei
      rw [sm.gd.2.2] at r
      obtain ⟨v2,e2,r3⟩:=Vm l r el
      refine ⟨a,C,dx,_,v2,rfl,hp,(hc C hC.1).1,(hc C hC.1).2,e2,?_⟩
      have sm2:=sm.grow g3
      refine hv W H0 σ B2 H2 ls s2 _ g4.kn w2 sm2 (show Ans W X.K B2 H2 (.ok (.int j) s2) _ _ from ?_)
      intro y B3 H3 g5 w3 r4
      have ey:y = .int j:=(show Dw X.K B3 H3 y (.int j) from r4.w).int
      have ev:v2 = .int n:=(show Dw X.K B2 H2 v2 (.int n) from r3.w).int
      obtain ⟨a',ea,hb',nv',dx',ns',vs',ds',hp',l',r',ez⟩:=w3.thing (r2.mono g5.bb) ei
      cases ea
      rw [sm.gd.2.2] at r'
      obtain ⟨ns2,vs2,ds2,z1,z2,l2,r5⟩:=Io (f:=f) (v:= .int (n+j)) (d:= .int (n+j)) (.int _) l' r'
      refine ⟨n,j,ev,ey,dx',_,hp',by have:=hC.2;rw [ez] at this;simp [List.length_zip] at this ⊢;have:=r'.len;omega,?_⟩
      have g6:=g4.trans g5
      have gc:=Gr.V8 (u:=HO.ins C dx' (putF f (.int (n+j)) (ns'.zip vs'))) g6.kn hb' hp'
      refine h2 σ B3 _ (g6.trans gc) (w3.V8 g6.kn hb' hp' (fun _ _ z=>by unfold LamX.CodeO at z;cases z) ⟨dx',ns2,vs2,ds2,by rw [upd_same,z1],l2,by rw [sm.gd.2.2];exact r5,by rw [←z2,ez]⟩) ((sm2.grow g5).grow gc)
     | _=>rw [el] at h2;exact (show False from h2).elim
   ·exact (show False from h2).elim
  ·exact (show False from h2).elim
 ·exact (show False from h2).elim
end
def KJ (x y:D):M D:=match x with
 | .str a=>(match y with
  | .str b=>ret (.bl (!decide (b.cps.toList<a.cps.toList)))
  | _=>stk)
 | _=>stk
theorem Ve {X:Cx}:Op2 X (compareOp .LtE) KJ:=by
 refine .mk' op_le_str fun W B H s x y dx dy Q E k w rx ry h=> ?_
 cases dx with
 | str a=>
  cases dy with
  | str b=>exact ⟨a,b,Dw.str rx,Dw.str ry,Ans.bU (show Ans W X.K B H (ret (.bl (!decide (b.cps.toList<a.cps.toList))) s) Q E from h) k w (.bl _)⟩
  | _=>exact (show False from h).elim
 | _=>exact (show False from h).elim
def abC (s:Stmt):Expr:=match s with
 | .Assign _ e _=>e
 | _=> .Constant .none 0 ⟨0,0,0,0⟩
end PV
namespace PV.Law
open PySem PySem.W PySem.Calls PyProof.Rows L2 PV
structure Tells (w:World) (K:Frag) (mg:Str→Option Value) (base:Heap):Prop where
 g_all:mg "all" = none
 g_any:mg "any" = none
 g_bool:mg "bool" = none
 g_enumerate:mg "enumerate" = none
 g_int:mg "int" = none
 g_isinstance:mg "isinstance" = none
 g_len:mg "len" = none
 g_list:mg "list" = none
 g_min:mg "min" = none
 g_range:mg "range" = none
 g_repr:mg "repr" = none
 g_sorted:mg "sorted" = none
 g_str:mg "str" = none
 g_super:mg "super" = none
 g_tuple:mg "tuple" = none
 g_zip:mg "zip" = none
 g_NetError:mg "NetError" = some (.ref FQ)
 g_BadNet:mg "BadNet" = some (.ref cX)
 g_BadNumber:mg "BadNumber" = some (.ref yr)
 g_BadRoad:mg "BadRoad" = some (.ref BZ)
 g_BadHead:mg "BadHead" = some (.ref Cg)
 g_BadFailed:mg "BadFailed" = some (.ref eV)
 g_BadParcel:mg "BadParcel" = some (.ref bW)
 g_BadChoices:mg "BadChoices" = some (.ref vo)
 g_BadLine:mg "BadLine" = some (.ref bF)
 g_TooGreat:mg "TooGreat" = some (.ref uZ)
 g_Line:mg "Line" = some (.ref aD)
 g_DIGITS:mg "DIGITS" = some (.ref dH)
 k_ALL:∃t,mg "ALL" = some (.str "all" t)
 k_ANY:∃t,mg "ANY" = some (.str "any" t)
 k_ELSE:∃t,mg "ELSE" = some (.str "/" t)
 k_HOME:∃t,mg "HOME" = some (.str "home" t)
 k_LABELS:∃t,mg "LABELS" = some (.str "labels" t)
 k_LETTERS:∃t,mg "LETTERS" = some (.str "abcdefghijklmnopqrstuvwxyz" t)
 k_MOST_CHOICES:∃t,mg "MOST_CHOICES" = some (.int 3 t)
 k_MOST_GROUPS:∃t,mg "MOST_GROUPS" = some (.int 3 t)
 k_MOST_HOUSES:∃t,mg "MOST_HOUSES" = some (.int 8 t)
 k_MOST_LABELS:∃t,mg "MOST_LABELS" = some (.int 4 t)
 k_MOST_LETTERS:∃t,mg "MOST_LETTERS" = some (.int 8 t)
 k_MOST_ROADS:∃t,mg "MOST_ROADS" = some (.int 10 t)
 k_MOST_STACK:∃t,mg "MOST_STACK" = some (.int 3000 t)
 k_MOST_WORD:∃t,mg "MOST_WORD" = some (.int 3 t)
 k_NO_LABEL:∃t,mg "NO_LABEL" = some (.str "-" t)
 k_OR:∃t,mg "OR" = some (.str "," t)
 k_ROAD:∃t,mg "ROAD" = some (.str "road" t)
 k_ROW:∃t,mg "ROW" = some (.str "row" t)
 k_TO:∃t,mg "TO" = some (.str ">" t)
 ct0:∀C b,Vx C=some b→exmAny K (.ref C) [.ref FQ,.ref uZ]=some b
 tb_need_net:LamX.TabB base mg (He.cT K ("need_net",none)).1 (He.cT K ("need_net",none)).2
 hu_need_net:∀p∈TB K,p.1=(He.cT K ("need_net",none)).2→p=Ug (He.cT K ("need_net",none)).2 "need_net.<locals>.<lambda>"
 tb_law:LamX.TabB base mg (He.cT K ("law",none)).1 (He.cT K ("law",none)).2
 hu_law:∀p∈TB K,p.1=(He.cT K ("law",none)).2→p=Ug (He.cT K ("law",none)).2 "law.<locals>.<lambda>"
 sm:∃o,K.lookup sysModules=some o
 tp:ach K tpT
 is:IsOk K isT
 at_:AtOk K atT
 fd_words:∀C∈[aD],Br K C "words"
 fd_number:∀C∈[aD],Br K C "number"
 fd_at:∀C∈[aD],Br K C "at"
 oN:ExC PP w K mg base "BadNet" cX ["place"] ["place"]
 rD:ExC PP w K mg base "BadFailed" eV ["value"] ["value"]
 rP:ExC PP w K mg base "BadParcel" bW ["value"] ["value"]
 mU:ExC PP w K mg base "BadLine" bF ["line","word"] ["line","word"]
section
variable {w:World}{K:Frag}{mg:Str→Option Value}{base:Heap}
def HF:MS:=(cW (xH (fun ls=>bnd ((ao (au 0) (ao (fun _=>ret (.raw (.ty "int"))) (fun _=>ret []))) ls) (kJ isT)) (WM (fun ls=>bnd ((ao (au 0) (ao (fun _=>ret (.raw (.ty "bool"))) (fun _=>ret []))) ls) (kJ isT)))))
def Nm:MS:=HF
def uJ:List D→M D:=dG 1 Nm
theorem Pb (T:Tells w K mg base) (F:DefF K mg "is_whole" (top 23)):Cal PP w K mg base (TB K) "is_whole" 1 1 uJ:=by
 have S:FnScope ["value"] ["value"] (defScope (top 23)):=⟨rfl,rfl,rfl,by decide +kernel,rfl,by decide +kernel,by decide +kernel⟩
 exact F.cal (N:=["value"]) (ps:=["value"]) S (by decide) (by intro _ _ _ _ _ _ us hl;exact match us,hl with | [_],_=>rfl) fun f cdv A outer s H E hr=>(aK (bA ((jV (aV (j9 T.is) rfl T.g_isinstance PyProof.Rows.Boot.«isinstance» (aH (SE.o ((aq (i:=0)))) (aH (SE.o ((nZ (v:= .ty "int") rfl T.g_int PyProof.Rows.Boot.«int» rfl))) aN))) (lD (Qt (aV (j9 T.is) rfl T.g_isinstance PyProof.Rows.Boot.«isinstance» (aH (SE.o ((aq (i:=0)))) (aH (SE.o ((nZ (v:= .ty "bool") rfl T.g_bool PyProof.Rows.Boot.«bool» rfl))) aN)))))))))
def xX:MS:=(cW (xH (fun ls=>bnd ((ao (au 0) (fun _=>ret [])) ls) (aQ 1 (uJ))) (o9 Wb Wb (au 1) (au 0) (au 2))))
def Ds:MS:=xX
def cY:List D→M D:=dG 3 Ds
theorem M9 (T:Tells w K mg base) (F:DefF K mg "is_among" (top 24)) (C_is_whole:Cal PP w K mg base (TB K) "is_whole" 1 1 (uJ)):Cal PP w K mg base (TB K) "is_among" 2 3 cY:=by
 have S:FnScope ["value","least","most"] ["value","least","most"] (defScope (top 24)):=⟨rfl,rfl,rfl,by decide +kernel,rfl,by decide +kernel,by decide +kernel⟩
 exact F.cal (N:=["value","least","most"]) (ps:=["value","least","most"]) S (by decide) (by intro _ _ _ _ _ _ us hl;exact match us,hl with | [_,_,_],_=>rfl) fun f cdv A outer s H E hr=>(aK (bA ((jV (aM C_is_whole (hr.mono (by decide)) rfl (takes_of rfl rfl rfl rfl) (aj ((aq (i:=0))) aA)) (lD (Hf Ou Ou (SE.o ((aq (i:=1)))) (SE.o ((aq (i:=0)))) (SE.o ((aq (i:=2))))))))))
def xV:MS:=(cW (xH (fun ls=>bnd ((ao (au 0) (ao (fun _=>ret (.raw (.ty "tuple"))) (fun _=>ret []))) ls) (kJ isT)) (o9 Wb Wb (au 1) (fun ls=>bnd ((ao (au 0) (fun _=>ret [])) ls) gj) (au 2))))
def Dj:MS:=xV
def aZ:List D→M D:=dG 3 Dj
theorem Oo (T:Tells w K mg base) (F:DefF K mg "is_tuple" (top 25)):Cal PP w K mg base (TB K) "is_tuple" 1 3 aZ:=by
 have S:FnScope ["value","least","most"] ["value","least","most"] (defScope (top 25)):=⟨rfl,rfl,rfl,by decide +kernel,rfl,by decide +kernel,by decide +kernel⟩
 exact F.cal (N:=["value","least","most"]) (ps:=["value","least","most"]) S (by decide) (by intro _ _ _ _ _ _ us hl;exact match us,hl with | [_,_,_],_=>rfl) fun f cdv A outer s H E hr=>(aK (bA ((jV (aV (j9 T.is) rfl T.g_isinstance PyProof.Rows.Boot.«isinstance» (aH (SE.o ((aq (i:=0)))) (aH (SE.o ((nZ (v:= .ty "tuple") rfl T.g_tuple PyProof.Rows.Boot.«tuple» rfl))) aN))) (lD (Hf Ou Ou (SE.o ((aq (i:=1)))) (SE.o ((aV jk rfl T.g_len PyProof.Rows.Boot.«len» (aH (SE.o ((aq (i:=0)))) aN)))) (SE.o ((aq (i:=2))))))))))
def zq:MS:=(cW (xH (fun ls=>bnd ((ao (au 0) (ao (fun _=>ret (.raw (.ty "str"))) (fun _=>ret []))) ls) (kJ isT)) (xH (o9 Wb Wb (fun _=>ret (.int 1)) (fun ls=>bnd ((ao (au 0) (fun _=>ret [])) ls) gj) (fun _=>ret (.int 8))) (fun ls=>bnd ((ao (mL (qK [1] (fun ls=>bnd ((au 0) ls) Xy) (gQ 1) (fun _=>ret true) (m2 inD (au 1) (fun _=>ret (.str "abcdefghijklmnopqrstuvwxyz"))))) (fun _=>ret [])) ls) Et))))
def zU:MS:=zq
def fL:List D→M D:=dG 2 zU
theorem QS (T:Tells w K mg base) (F:DefF K mg "is_word" (top 26)):Cal PP w K mg base (TB K) "is_word" 1 1 fL:=by
 have S:FnScope ["value","letter"] ["value"] (defScope (top 26)):=⟨rfl,rfl,rfl,by decide +kernel,rfl,by decide +kernel,by decide +kernel⟩
 exact F.cal (N:=["value","letter"]) (ps:=["value"]) S (by decide) (by intro _ _ _ _ _ _ us hl;exact match us,hl with | [_],_=>rfl) fun f cdv A outer s H E hr=>(aK (bA ((jV (aV (j9 T.is) rfl T.g_isinstance PyProof.Rows.Boot.«isinstance» (aH (SE.o ((aq (i:=0)))) (aH (SE.o ((nZ (v:= .ty "str") rfl T.g_str PyProof.Rows.Boot.«str» rfl))) aN))) (jV (Hf Ou Ou (SE.o ((aG))) (SE.o ((aV jk rfl T.g_len PyProof.Rows.Boot.«len» (aH (SE.o ((aq (i:=0)))) aN)))) (SE.o ((nQ rfl T.k_MOST_LETTERS)))) (lD (aV (Ii rfl) rfl T.g_all PyProof.Rows.Boot.«all» (aH (SE.o ((SL.se (mG (own:=[("letter",1)]) (is:=[1]) rfl S.nd (Sd (SE.o ((aq (i:=0))))) (uF ["value","letter"] (defScope (top 26)) ⟨rfl,by decide +kernel,by decide +kernel,by decide +kernel,by decide +kernel⟩) (fun s H C cl fp=>(bB (i:=1) S.nd)) (fun s H C cl fp=>fQ) (fun s H C cl fp=>(mK (Yv hr.room) (SE.o ((aq (i:=1)))) (SE.o ((dw rfl T.k_LETTERS))))))))) aN))))))))
def qN:MS:=(cW (xH (fun ls=>bnd ((ao (au 0) (ao (fun _=>ret (.int 2)) (ao (fun _=>ret (.int 2)) (fun _=>ret [])))) ls) (aQ 3 (aZ))) (fun ls=>bnd ((ao (mL (qK [1] (lB (au 0)) (gQ 1) (fun _=>ret true) (fun ls=>bnd ((ao (au 1) (ao (fun _=>ret (.int 0)) (ao (m2 uR (fun _=>ret (.int 8)) (fun _=>ret (.int 1))) (fun _=>ret [])))) ls) (aQ 3 (cY))))) (fun _=>ret [])) ls) Et)))
def vG:MS:=qN
def iV:List D→M D:=dG 2 vG
theorem En (T:Tells w K mg base) (F:DefF K mg "is_road_pair" (top 27)) (C_is_tuple:Cal PP w K mg base (TB K) "is_tuple" 1 3 (aZ)) (C_is_among:Cal PP w K mg base (TB K) "is_among" 2 3 (cY)):Cal PP w K mg base (TB K) "is_road_pair" 3 1 iV:=by
 have S:FnScope ["value","house"] ["value"] (defScope (top 27)):=⟨rfl,rfl,rfl,by decide +kernel,rfl,by decide +kernel,by decide +kernel⟩
 exact F.cal (N:=["value","house"]) (ps:=["value"]) S (by decide) (by intro _ _ _ _ _ _ us hl;exact match us,hl with | [_],_=>rfl) fun f cdv A outer s H E hr=>(aK (bA ((jV (aM C_is_tuple (hr.mono (by decide)) rfl (takes_of rfl rfl rfl rfl) (aj ((aq (i:=0))) (aj ((aG)) (aj ((aG)) aA)))) (lD (aV (Ii rfl) rfl T.g_all PyProof.Rows.Boot.«all» (aH (SE.o ((SL.se (mG (own:=[("house",1)]) (is:=[1]) rfl S.nd (nU (SE.o ((aq (i:=0))))) (uF ["value","house"] (defScope (top 27)) ⟨rfl,by decide +kernel,by decide +kernel,by decide +kernel,by decide +kernel⟩) (fun s H C cl fp=>(bB (i:=1) S.nd)) (fun s H C cl fp=>fQ) (fun s H C cl fp=>(aM C_is_among (hr.mono (by decide)) rfl takes0 (aj ((aq (i:=1))) (aj ((aG)) (aj ((cH DQ (SE.o ((nQ rfl T.k_MOST_HOUSES))) (SE.o ((aG))))) aA))))))))) aN)))))))
def xq:MS:=(cW (xH (fun ls=>bnd ((ao (au 1) (ao (fun _=>ret (.raw (.ty "str"))) (fun _=>ret []))) ls) (kJ isT)) (m2 inD (au 1) (au 0))))
def CW:MS:=xq
def gH:List D→M D:=dG 2 CW
theorem Mi (T:Tells w K mg base) (F:DefF K mg "is_label" (top 28)):Cal PP w K mg base (TB K) "is_label" 1 2 gH:=by
 have S:FnScope ["labels","value"] ["labels","value"] (defScope (top 28)):=⟨rfl,rfl,rfl,by decide +kernel,rfl,by decide +kernel,by decide +kernel⟩
 exact F.cal (N:=["labels","value"]) (ps:=["labels","value"]) S (by decide) (by intro _ _ _ _ _ _ us hl;exact match us,hl with | [_,_],_=>rfl) fun f cdv A outer s H E hr=>(aK (bA ((jV (aV (j9 T.is) rfl T.g_isinstance PyProof.Rows.Boot.«isinstance» (aH (SE.o ((aq (i:=1)))) (aH (SE.o ((nZ (v:= .ty "str") rfl T.g_str PyProof.Rows.Boot.«str» rfl))) aN))) (lD (mK (Yv hr.room) (SE.o ((aq (i:=1)))) (SE.o ((aq (i:=0))))))))))
def mY:MS:=(cW (xH (fun ls=>bnd ((ao (au 1) (ao (fun _=>ret (.int 0)) (ao (au 2) (fun _=>ret [])))) ls) (aQ 3 (aZ))) (fun ls=>bnd ((ao (mL (qK [3] (lB (au 1)) (gQ 3) (fun _=>ret true) (fun ls=>bnd ((ao (au 0) (ao (au 3) (fun _=>ret []))) ls) (aQ 2 (gH))))) (fun _=>ret [])) ls) Et)))
def sX:MS:=mY
def fj:List D→M D:=dG 4 sX
theorem Iv (T:Tells w K mg base) (F:DefF K mg "are_labels" (top 29)) (C_is_tuple:Cal PP w K mg base (TB K) "is_tuple" 1 3 (aZ)) (C_is_label:Cal PP w K mg base (TB K) "is_label" 1 2 (gH)):Cal PP w K mg base (TB K) "are_labels" 2 3 fj:=by
 have S:FnScope ["labels","value","most","one"] ["labels","value","most"] (defScope (top 29)):=⟨rfl,rfl,rfl,by decide +kernel,rfl,by decide +kernel,by decide +kernel⟩
 exact F.cal (N:=["labels","value","most","one"]) (ps:=["labels","value","most"]) S (by decide) (by intro _ _ _ _ _ _ us hl;exact match us,hl with | [_,_,_],_=>rfl) fun f cdv A outer s H E hr=>(aK (bA ((jV (aM C_is_tuple (hr.mono (by decide)) rfl (takes_of rfl rfl rfl rfl) (aj ((aq (i:=1))) (aj ((aG)) (aj ((aq (i:=2))) aA)))) (lD (aV (Ii rfl) rfl T.g_all PyProof.Rows.Boot.«all» (aH (SE.o ((SL.se (mG (own:=[("one",3)]) (is:=[3]) rfl S.nd (nU (SE.o ((aq (i:=1))))) (uF ["labels","value","most","one"] (defScope (top 29)) ⟨rfl,by decide +kernel,by decide +kernel,by decide +kernel,by decide +kernel⟩) (fun s H C cl fp=>(bB (i:=3) S.nd)) (fun s H C cl fp=>fQ) (fun s H C cl fp=>(aM C_is_label (hr.mono (by decide)) rfl takes0 (aj ((aq (i:=0))) (aj ((aq (i:=3))) aA)))))))) aN)))))))
def BJ:MS:=(eY (J5 (d7 (fun ls=>bnd ((fun ls=>bnd ((ao (au 2) (ao (fun _=>ret (.int 2)) (ao (fun _=>ret (.int 2)) (fun _=>ret [])))) ls) (aQ 3 (aZ))) ls) cQ)) (d7 (fun ls=>bnd ((fun ls=>bnd ((ao (m2 dJ (au 2) (fun _=>ret (.int 0))) (ao (fun _=>ret (.int 0)) (ao (m2 uR (fun ls=>bnd ((ao (au 0) (fun _=>ret [])) ls) gj) (fun _=>ret (.int 1))) (fun _=>ret [])))) ls) (aQ 3 (cY))) ls) cQ))) (cW (fun _=>ret (.bl false))) fJ)
def Bt:MS:=(cW (fun ls=>bnd ((ao (fun ls=>bnd ((BK (au 1) (ao (fun _=>ret (.str "")) (fun _=>ret []))) ls) bK) (ao (m2 dJ (au 2) (fun _=>ret (.int 1))) (fun _=>ret []))) ls) (aQ 2 (gH))))
def JB:MS:=(aR BJ Bt)
def xP:List D→M D:=dG 3 JB
theorem T8 (T:Tells w K mg base) (F:DefF K mg "is_key" (top 30)) (C_is_tuple:Cal PP w K mg base (TB K) "is_tuple" 1 3 (aZ)) (C_is_among:Cal PP w K mg base (TB K) "is_among" 2 3 (cY)) (C_is_label:Cal PP w K mg base (TB K) "is_label" 1 2 (gH)):Cal PP w K mg base (TB K) "is_key" 3 3 xP:=by
 have S:FnScope ["roads","labels","value"] ["roads","labels","value"] (defScope (top 30)):=⟨rfl,rfl,rfl,by decide +kernel,rfl,by decide +kernel,by decide +kernel⟩
 exact F.cal (N:=["roads","labels","value"]) (ps:=["roads","labels","value"]) S (by decide) (by intro _ _ _ _ _ _ us hl;exact match us,hl with | [_,_,_],_=>rfl) fun f cdv A outer s H E hr=>(aF (cV (STw.st (oW (dD (bV (SE.o ((aM C_is_tuple (hr.mono (by decide)) rfl (takes_of rfl rfl rfl rfl) (aj ((aq (i:=2))) (aj ((aG)) (aj ((aG)) aA)))))))) (jD (dD (bV (SE.o ((aM C_is_among (hr.mono (by decide)) rfl (takes_of rfl rfl rfl rfl) (aj ((bL (SE.o ((aq (i:=2)))) (SE.o ((aG))))) (aj ((aG)) (aj ((cH DQ (SE.o ((aV jk rfl T.g_len PyProof.Rows.Boot.«len» (aH (SE.o ((aq (i:=0)))) aN)))) (SE.o ((aG))))) aA))))))))))) (aK (bA ((xM)))) bH) (aK (bA ((aM C_is_label (hr.mono (by decide)) rfl (takes_of rfl rfl rfl rfl) (aj ((aU (yE (SE.o ((aq (i:=1)))) (aj ((aY)) aA)))) (aj ((bL (SE.o ((aq (i:=2)))) (SE.o ((aG))))) aA)))))))
def vZ:MS:=(eY (J5 (d7 (fun ls=>bnd ((fun ls=>bnd ((ao (au 3) (ao (fun _=>ret (.int 2)) (ao (fun _=>ret (.int 2)) (fun _=>ret [])))) ls) (aQ 3 (aZ))) ls) cQ)) (d7 (fun ls=>bnd ((fun ls=>bnd ((ao (m2 dJ (au 3) (fun _=>ret (.int 0))) (ao (fun _=>ret (.int 0)) (ao (m2 uR (fun ls=>bnd ((ao (au 0) (fun _=>ret [])) ls) gj) (fun _=>ret (.int 1))) (fun _=>ret [])))) ls) (aQ 3 (cY))) ls) cQ))) (cW (fun _=>ret (.bl false))) fJ)
def vN:MS:=(cW (xH (m2 v7 (m2 dJ (m2 dJ (au 0) (m2 dJ (au 3) (fun _=>ret (.int 0)))) (fun _=>ret (.int 0))) (m2 dJ (m2 dJ (au 0) (au 2)) (fun _=>ret (.int 1)))) (fun ls=>bnd ((ao (au 1) (ao (m2 dJ (au 3) (fun _=>ret (.int 1))) (ao (fun _=>ret (.int 3)) (fun _=>ret [])))) ls) (aQ 3 (fj)))))
def Aj:MS:=(aR vZ vN)
def jX:List D→M D:=dG 4 Aj
theorem Lw (T:Tells w K mg base) (F:DefF K mg "is_choice" (top 31)) (C_is_tuple:Cal PP w K mg base (TB K) "is_tuple" 1 3 (aZ)) (C_is_among:Cal PP w K mg base (TB K) "is_among" 2 3 (cY)) (C_are_labels:Cal PP w K mg base (TB K) "are_labels" 2 3 (fj)):Cal PP w K mg base (TB K) "is_choice" 3 4 jX:=by
 have S:FnScope ["roads","labels","road","value"] ["roads","labels","road","value"] (defScope (top 31)):=⟨rfl,rfl,rfl,by decide +kernel,rfl,by decide +kernel,by decide +kernel⟩
 exact F.cal (N:=["roads","labels","road","value"]) (ps:=["roads","labels","road","value"]) S (by decide) (by intro _ _ _ _ _ _ us hl;exact match us,hl with | [_,_,_,_],_=>rfl) fun f cdv A outer s H E hr=>(aF (cV (STw.st (oW (dD (bV (SE.o ((aM C_is_tuple (hr.mono (by decide)) rfl (takes_of rfl rfl rfl rfl) (aj ((aq (i:=3))) (aj ((aG)) (aj ((aG)) aA)))))))) (jD (dD (bV (SE.o ((aM C_is_among (hr.mono (by decide)) rfl (takes_of rfl rfl rfl rfl) (aj ((bL (SE.o ((aq (i:=3)))) (SE.o ((aG))))) (aj ((aG)) (aj ((cH DQ (SE.o ((aV jk rfl T.g_len PyProof.Rows.Boot.«len» (aH (SE.o ((aq (i:=0)))) aN)))) (SE.o ((aG))))) aA))))))))))) (aK (bA ((xM)))) bH) (aK (bA ((jV (mK (yO hr.room) (SE.o ((bL (SE.o ((bL (SE.o ((aq (i:=0)))) (SE.o ((bL (SE.o ((aq (i:=3)))) (SE.o ((aG))))))))) (SE.o ((aG)))))) (SE.o ((bL (SE.o ((bL (SE.o ((aq (i:=0)))) (SE.o ((aq (i:=2))))))) (SE.o ((aG))))))) (lD (aM C_are_labels (hr.mono (by decide)) rfl (takes_of rfl rfl rfl rfl) (aj ((aq (i:=1))) (aj ((bL (SE.o ((aq (i:=3)))) (SE.o ((aG))))) (aj ((nQ rfl T.k_MOST_WORD)) aA))))))))))
def yd:MS:=(eY (J5 (d7 (fun ls=>bnd ((fun ls=>bnd ((ao (au 3) (ao (fun _=>ret (.int 1)) (ao (fun _=>ret (.int 3)) (fun _=>ret [])))) ls) (aQ 3 (aZ))) ls) cQ)) (d7 (fun ls=>bnd ((fun ls=>bnd ((ao (mL (qK [4] (lB (au 3)) (gQ 4) (fun _=>ret true) (fun ls=>bnd ((ao (au 0) (ao (au 1) (ao (au 2) (ao (au 4) (fun _=>ret []))))) ls) (aQ 4 (jX))))) (fun _=>ret [])) ls) Et) ls) cQ))) (cW (fun _=>ret (.bl false))) fJ)
def wz:MS:=(cW (WM (fun ls=>bnd ((ao (mL (qK [5,4] (wH (au 3)) (jY 2 (cG (gQ 5) (cG (gQ 4) lY))) (fun _=>ret true) (m2 inD (au 4) (Pr (au 3) (fun _=>ret none) (fun ls=>bnd ((au 5) ls) intD))))) (fun _=>ret [])) ls) ZR)))
def Dh:MS:=(aR yd wz)
def mX:List D→M D:=dG 6 Dh
theorem N7 (T:Tells w K mg base) (F:DefF K mg "is_group" (top 32)) (C_is_tuple:Cal PP w K mg base (TB K) "is_tuple" 1 3 (aZ)) (C_is_choice:Cal PP w K mg base (TB K) "is_choice" 3 4 (jX)):Cal PP w K mg base (TB K) "is_group" 4 4 mX:=by
 have S:FnScope ["roads","labels","road","value","one","place"] ["roads","labels","road","value"] (defScope (top 32)):=⟨rfl,rfl,rfl,by decide +kernel,rfl,by decide +kernel,by decide +kernel⟩
 exact F.cal (N:=["roads","labels","road","value","one","place"]) (ps:=["roads","labels","road","value"]) S (by decide) (by intro _ _ _ _ _ _ us hl;exact match us,hl with | [_,_,_,_],_=>rfl) fun f cdv A outer s H E hr=>(aF (cV (STw.st (oW (dD (bV (SE.o ((aM C_is_tuple (hr.mono (by decide)) rfl (takes_of rfl rfl rfl rfl) (aj ((aq (i:=3))) (aj ((aG)) (aj ((nQ rfl T.k_MOST_CHOICES)) aA)))))))) (jD (dD (bV (SE.o ((aV (Ii rfl) rfl T.g_all PyProof.Rows.Boot.«all» (aH (SE.o ((SL.se (mG (own:=[("one",4)]) (is:=[4]) rfl S.nd (nU (SE.o ((aq (i:=3))))) (uF ["roads","labels","road","value","one","place"] (defScope (top 32)) ⟨rfl,by decide +kernel,by decide +kernel,by decide +kernel,by decide +kernel⟩) (fun s H C cl fp=>(bB (i:=4) S.nd)) (fun s H C cl fp=>fQ) (fun s H C cl fp=>(aM C_is_choice (hr.mono (by decide)) rfl takes0 (aj ((aq (i:=0))) (aj ((aq (i:=1))) (aj ((aq (i:=2))) (aj ((aq (i:=4))) aA)))))))))) aN))))))))) (aK (bA ((xM)))) bH) (aK (bA ((Qt (aV (acV rfl) rfl T.g_any PyProof.Rows.Boot.«any» (aH (SE.o ((SL.se (mG (own:=[("place",5),("one",4)]) (is:=[5,4]) rfl S.nd (Ib rfl T.g_enumerate ((aq (i:=3)))) (uF ["roads","labels","road","value","one","place"] (defScope (top 32)) ⟨rfl,by decide +kernel,by decide +kernel,by decide +kernel,by decide +kernel⟩) (fun s H C cl fp=>(qQ rfl (cJ (bB (i:=5) S.nd) (cJ (bB (i:=4) S.nd) j7)))) (fun s H C cl fp=>fQ) (fun s H C cl fp=>(mK (Yv hr.room) (SE.o ((aq (i:=4)))) (SE.o ((zj (SE.o ((aq (i:=3)))) nW (ou ((aq (i:=5))))))))))))) aN)))))))
def uL:MS:=(eY (J5 (d7 (fun ls=>bnd ((fun ls=>bnd ((ao (au 2) (ao (fun _=>ret (.int 2)) (ao (fun _=>ret (.int 2)) (fun _=>ret [])))) ls) (aQ 3 (aZ))) ls) cQ)) (d7 (fun ls=>bnd ((fun ls=>bnd ((ao (au 0) (ao (au 1) (ao (m2 dJ (au 2) (fun _=>ret (.int 0))) (fun _=>ret [])))) ls) (aQ 3 (xP))) ls) cQ))) (cW (fun _=>ret (.bl false))) fJ)
def uM:MS:=(eY (fun ls=>bnd ((fun ls=>bnd ((ao (m2 dJ (au 2) (fun _=>ret (.int 1))) (ao (fun _=>ret (.raw (.ty "str"))) (fun _=>ret []))) ls) (kJ isT)) ls) cQ) (cW (m2 v7 (m2 dJ (au 2) (fun _=>ret (.int 1))) (fun _=>ret (.str "home")))) fJ)
def vf:MS:=(cW (xH (fun ls=>bnd ((ao (m2 dJ (au 2) (fun _=>ret (.int 1))) (ao (fun _=>ret (.int 1)) (ao (fun _=>ret (.int 3)) (fun _=>ret [])))) ls) (aQ 3 (aZ))) (fun ls=>bnd ((ao (mL (qK [3] (lB (m2 dJ (au 2) (fun _=>ret (.int 1)))) (gQ 3) (fun _=>ret true) (fun ls=>bnd ((ao (au 0) (ao (au 1) (ao (m2 dJ (m2 dJ (au 2) (fun _=>ret (.int 0))) (fun _=>ret (.int 0))) (ao (au 3) (fun _=>ret []))))) ls) (aQ 4 (mX))))) (fun _=>ret [])) ls) Et)))
def Ce:MS:=(aR uL (aR uM vf))
def tG:List D→M D:=dG 4 Ce
theorem Ua (T:Tells w K mg base) (F:DefF K mg "is_row" (top 33)) (C_is_tuple:Cal PP w K mg base (TB K) "is_tuple" 1 3 (aZ)) (C_is_key:Cal PP w K mg base (TB K) "is_key" 3 3 (xP)) (C_is_group:Cal PP w K mg base (TB K) "is_group" 4 4 (mX)):Cal PP w K mg base (TB K) "is_row" 5 3 tG:=by
 have S:FnScope ["roads","labels","value","one"] ["roads","labels","value"] (defScope (top 33)):=⟨rfl,rfl,rfl,by decide +kernel,rfl,by decide +kernel,by decide +kernel⟩
 exact F.cal (N:=["roads","labels","value","one"]) (ps:=["roads","labels","value"]) S (by decide) (by intro _ _ _ _ _ _ us hl;exact match us,hl with | [_,_,_],_=>rfl) fun f cdv A outer s H E hr=>(aF (cV (STw.st (oW (dD (bV (SE.o ((aM C_is_tuple (hr.mono (by decide)) rfl (takes_of rfl rfl rfl rfl) (aj ((aq (i:=2))) (aj ((aG)) (aj ((aG)) aA)))))))) (jD (dD (bV (SE.o ((aM C_is_key (hr.mono (by decide)) rfl (takes_of rfl rfl rfl rfl) (aj ((aq (i:=0))) (aj ((aq (i:=1))) (aj ((bL (SE.o ((aq (i:=2)))) (SE.o ((aG))))) aA))))))))))) (aK (bA ((xM)))) bH) (aF (cV (bV (SE.o ((aV (j9 T.is) rfl T.g_isinstance PyProof.Rows.Boot.«isinstance» (aH (SE.o ((bL (SE.o ((aq (i:=2)))) (SE.o ((aG)))))) (aH (SE.o ((nZ (v:= .ty "str") rfl T.g_str PyProof.Rows.Boot.«str» rfl))) aN)))))) (aK (bA ((mK (yO hr.room) (SE.o ((bL (SE.o ((aq (i:=2)))) (SE.o ((aG)))))) (SE.o ((dw rfl T.k_HOME))))))) bH) (aK (bA ((jV (aM C_is_tuple (hr.mono (by decide)) rfl (takes_of rfl rfl rfl rfl) (aj ((bL (SE.o ((aq (i:=2)))) (SE.o ((aG))))) (aj ((aG)) (aj ((nQ rfl T.k_MOST_GROUPS)) aA)))) (lD (aV (Ii rfl) rfl T.g_all PyProof.Rows.Boot.«all» (aH (SE.o ((SL.se (mG (own:=[("one",3)]) (is:=[3]) rfl S.nd (nU (SE.o ((bL (SE.o ((aq (i:=2)))) (SE.o ((aG))))))) (uF ["roads","labels","value","one"] (defScope (top 33)) ⟨rfl,by decide +kernel,by decide +kernel,by decide +kernel,by decide +kernel⟩) (fun s H C cl fp=>(bB (i:=3) S.nd)) (fun s H C cl fp=>fQ) (fun s H C cl fp=>(aM C_is_group (hr.mono (by decide)) rfl takes0 (aj ((aq (i:=0))) (aj ((aq (i:=1))) (aj ((bL (SE.o ((bL (SE.o ((aq (i:=2)))) (SE.o ((aG)))))) (SE.o ((aG))))) (aj ((aq (i:=3))) aA)))))))))) aN)))))))))
def tU (call:List D→M D):MS:=(eY (d7 (fun ls=>bnd ((fun ls=>bnd ((ao (au 1) (ao (fun _=>ret (.int 0)) (ao (au 2) (fun _=>ret [])))) ls) (aQ 3 (aZ))) ls) cQ)) (fun ls=>bnd ((ao (fun ls=>bnd ((ao (au 0) (fun _=>ret [])) ls) bK) (fun _=>ret [])) ls) fun ds=>bnd (Uv cX ["place"] ds) UW) fJ)
def qm (call:List D→M D):MS:=(eY (d7 (fun ls=>bnd ((Jb 3 call (ao (Pr (au 1) (fun _=>ret none) (fun ls=>bnd ((au 4) ls) intD)) (ao (au 5) (fun _=>ret [])))) ls) cQ)) (fun ls=>bnd ((ao (fun ls=>bnd ((ao (au 0) (ao (au 4) (fun _=>ret []))) ls) bK) (fun _=>ret [])) ls) fun ds=>bnd (Uv cX ["place"] ds) UW) fJ)
def jH (call:List D→M D):MS:=(qm call)
def uG (call:List D→M D):MS:=(fun ls=>bnd ((wH (au 1)) ls) fun ds=>fH (jY 2 (cG (gQ 4) (cG (gQ 5) lY))) (jH call) ds ls)
def cM (call:List D→M D):MS:=(aR (tU call) (uG call))
theorem Jh (T:Tells w K mg base) (F:DefF K mg "need_items" (top 34)) (C_is_tuple:Cal PP w K mg base (TB K) "is_tuple" 1 3 (aZ)):CalL PP w K mg base (TB K) "need_items" 2 ["word","value","most","is_right","place","item"] ["word","value","most"] "is_right" (defScope (top 34)) cM:=by
 have S:FnScope ["word","value","most","is_right","place","item"] ["word","value","most","is_right"] (defScope (top 34)):=⟨rfl,rfl,rfl,by decide +kernel,rfl,by decide +kernel,by decide +kernel⟩
 exact F.adf (N:=["word","value","most","is_right","place","item"]) (psg:=["word","value","most"]) (a:= "is_right") S (by intro _ _ _ _ _ _ us hl;exact match us,hl with | [_,_,_,_],_=>rfl) fun g q f c B0 call cdv A outer s H E hr act=>(aF (cV (dD (bV (SE.o ((aM C_is_tuple (hr.mono (by decide)) rfl (takes_of rfl rfl rfl rfl) (aj ((aq (i:=1))) (aj ((aG)) (aj ((aq (i:=2))) aA)))))))) (aK (SX.ss (T.oN.rz rfl hr.room (takes_of rfl rfl rfl rfl) rfl rfl (aj ((aU (aj ((aq (i:=0))) aA))) aA)))) bH) (aK (oY (passes_of rfl) rfl (Ib rfl T.g_enumerate ((aq (i:=1)))) (qQ rfl (cJ (bB (i:=4) S.nd) (cJ (bB (i:=5) S.nd) j7))) (aK (cV (dD (bV (SE.o ((act.z1 (takes_of rfl rfl rfl rfl) (aj ((zj (SE.o ((aq (i:=1)))) nW (ou ((aq (i:=4)))))) (aj ((aq (i:=5))) aA))))))) (aK (SX.ss (T.oN.rz rfl hr.room (takes_of rfl rfl rfl rfl) rfl rfl (aj ((aU (aj ((aq (i:=0))) (aj ((aq (i:=4))) aA)))) aA)))) bH)))))
def qX:MS:=(eY (d7 (fun ls=>bnd ((fun ls=>bnd ((ao (au 0) (ao (fun _=>ret (.int 3)) (ao (fun _=>ret (.int 3)) (fun _=>ret [])))) ls) (aQ 3 (aZ))) ls) cQ)) (fun ls=>bnd ((ao (fun ls=>bnd ((fun _=>ret []) ls) bK) (fun _=>ret [])) ls) fun ds=>bnd (Uv cX ["place"] ds) UW) fJ)
def v9:MS:=(fun ls=>bnd ((au 0) ls) fun d=>nxO ((jY 3 (cG (gQ 1) (cG (gQ 2) (cG (gQ 3) lY)))) d ls))
def qM:MS:=(eY (d7 (fun ls=>bnd ((fun ls=>bnd ((ao (au 1) (ao (fun _=>ret (.int 1)) (ao (fun _=>ret (.int 10)) (fun _=>ret [])))) ls) (aQ 3 (aZ))) ls) cQ)) (fun ls=>bnd ((ao (fun ls=>bnd ((ao (fun _=>ret (.str "roads")) (fun _=>ret [])) ls) bK) (fun _=>ret [])) ls) fun ds=>bnd (Uv cX ["place"] ds) UW) fJ)
def lF:bJ D:=(fun ls=>bnd ((ao (au 1) (fun _=>ret [])) ls) (aQ 1 (iV)))
def qR:MS:=(fun ls=>bnd ((fun ls=>bnd ((ao (fun _=>ret (.str "roads")) (ao (au 1) (ao (fun _=>ret (.int 10)) (fun _=>ret [])))) ls) (jr 6 3 cM (lamD 2 (gJ [] ls) lF))) ls) fun _=>ret (.nx ls))
def qu:MS:=(eY (d7 (fun ls=>bnd ((fun ls=>bnd ((ao (au 2) (ao (fun _=>ret (.int 1)) (ao (fun _=>ret (.int 4)) (fun _=>ret [])))) ls) (aQ 3 (aZ))) ls) cQ)) (fun ls=>bnd ((ao (fun ls=>bnd ((ao (fun _=>ret (.str "labels")) (fun _=>ret [])) ls) bK) (fun _=>ret [])) ls) fun ds=>bnd (Uv cX ["place"] ds) UW) fJ)
def qH:bJ D:=(xH (fun ls=>bnd ((ao (au 1) (fun _=>ret [])) ls) (aQ 1 (fL))) (xH (m2 Ai (au 1) (fun ls=>bnd ((ao (fun _=>ret (.str "any")) (ao (fun _=>ret (.str "all")) (fun _=>ret []))) ls) bK)) (m2 Ai (au 1) (au 0))))
def qD:MS:=(fun ls=>bnd ((fun ls=>bnd ((ao (fun _=>ret (.str "labels")) (ao (au 2) (ao (fun _=>ret (.int 4)) (fun _=>ret [])))) ls) (jr 6 3 cM (lamD 2 (gJ [] ls) qH))) ls) fun _=>ret (.nx ls))
def eU:bJ D:=(xH (fun ls=>bnd ((ao (au 2) (ao (au 3) (ao (au 1) (fun _=>ret [])))) ls) (aQ 3 (tG))) (mOr (m2 v7 (au 0) (fun ls=>bnd ((fun _=>ret []) ls) bK)) (m2 Vq (m2 dJ (m2 dJ (au 0) (fun ls=>bnd ((fun _=>ret (.int 1)) ls) YJ)) (fun _=>ret (.int 0))) (m2 dJ (au 1) (fun _=>ret (.int 0))))))
def yt:MS:=(fun ls=>bnd ((fun ls=>bnd ((ao (fun _=>ret (.str "rows")) (ao (au 3) (ao (m2 mF (fun ls=>bnd ((ao (au 1) (fun _=>ret [])) ls) gj) (m2 iT (fun ls=>bnd ((ao (au 2) (fun _=>ret [])) ls) gj) (fun _=>ret (.int 1)))) (fun _=>ret [])))) ls) (jr 6 3 cM (lamD 2 (gJ [(1,"roads"),(2,"labels")] ls) eU))) ls) fun _=>ret (.nx ls))
def wV:MS:=(aR qX (aR v9 (aR qM (aR qR (aR qu (aR qD (aR yt (cW (au 0)))))))))
def bY:List D→M D:=dG 4 wV
theorem Om (T:Tells w K mg base) (F:DefL K mg "need_net" (top 35)) (C_is_tuple:Cal PP w K mg base (TB K) "is_tuple" 1 3 (aZ)) (C_need_items:CalL PP w K mg base (TB K) "need_items" 2 ["word","value","most","is_right","place","item"] ["word","value","most"] "is_right" (defScope (top 34)) cM) (C_is_road_pair:Cal PP w K mg base (TB K) "is_road_pair" 3 1 (iV)) (C_is_word:Cal PP w K mg base (TB K) "is_word" 1 1 (fL)) (C_is_row:Cal PP w K mg base (TB K) "is_row" 5 3 (tG)):Cal PP w K mg base (TB K) "need_net" 8 1 bY:=by
 have S:FnScope ["net","roads","labels","rows"] ["net"] (defScope (top 35)):=⟨rfl,rfl,rfl,by decide +kernel,rfl,by decide +kernel,by decide +kernel⟩
 exact F.cal (N:=["net","roads","labels","rows"]) (ps:=["net"]) S (by decide) (by intro _ _ _ _ _ _ us hl;exact match us,hl with | [_],_=>rfl) fun f cdv A outer s H E hcd hr=>(aF (cV (dD (bV (SE.o ((aM C_is_tuple (hr.mono (by decide)) rfl (takes_of rfl rfl rfl rfl) (aj ((aq (i:=0))) (aj ((aG)) (aj ((aG)) aA)))))))) (aK (SX.ss (T.oN.rz rfl hr.room (takes_of rfl rfl rfl rfl) rfl rfl (aj ((aU aA)) aA)))) bH) (aF (K9 ((aq (i:=0))) (qQ rfl (cJ (bB (i:=1) S.nd) (cJ (bB (i:=2) S.nd) (cJ (bB (i:=3) S.nd) j7))))) (aF (cV (dD (bV (SE.o ((aM C_is_tuple (hr.mono (by decide)) rfl (takes_of rfl rfl rfl rfl) (aj ((aq (i:=1))) (aj ((aG)) (aj ((nQ rfl T.k_MOST_ROADS)) aA)))))))) (aK (SX.ss (T.oN.rz rfl hr.room (takes_of rfl rfl rfl rfl) rfl rfl (aj ((aU (aj ((aY)) aA))) aA)))) bH) (aF (fV (by exact uX (Ng:=["word","value","most","is_right","place","item"]) (psg:=["word","value","most"]) (mlam:=lF) (k:=3) (ps:=["ahead","one"]) (cap:=[]) C_need_items (hr.mono (by decide)) (by decide) rfl (takes_of rfl rfl rfl rfl) (by exact fX (by kernel_rfl)) (by kernel_rfl) (lV (aY) (lV (aq (i:=1)) (lV (nQ rfl T.k_MOST_ROADS) (uK T.tb_need_net hcd rfl (List.mem_of_getElem? (i:=0) rfl) T.hu_need_net rfl (LamP.free (by exact fX (ps:=["ahead","one"]) (by kernel_rfl))))))) (by intro _ _ _ _ us hl;exact match us,hl with | [_,_],_=>rfl) (fun A outer s H E f c hr=>by exact (aM C_is_road_pair (hr.mono (by decide)) rfl (takes_of rfl rfl rfl rfl) (aj ((aq (i:=1))) aA))))) (aF (cV (dD (bV (SE.o ((aM C_is_tuple (hr.mono (by decide)) rfl (takes_of rfl rfl rfl rfl) (aj ((aq (i:=2))) (aj ((aG)) (aj ((nQ rfl T.k_MOST_LABELS)) aA)))))))) (aK (SX.ss (T.oN.rz rfl hr.room (takes_of rfl rfl rfl rfl) rfl rfl (aj ((aU (aj ((aY)) aA))) aA)))) bH) (aF (fV (by exact uX (Ng:=["word","value","most","is_right","place","item"]) (psg:=["word","value","most"]) (mlam:=qH) (k:=1) (ps:=["ahead","one"]) (cap:=[]) C_need_items (hr.mono (by decide)) (by decide) rfl (takes_of rfl rfl rfl rfl) (by exact fX (by kernel_rfl)) (by kernel_rfl) (lV (aY) (lV (aq (i:=2)) (lV (nQ rfl T.k_MOST_LABELS) (uK T.tb_need_net hcd rfl (List.mem_of_getElem? (i:=0) rfl) T.hu_need_net rfl (LamP.free (by exact fX (ps:=["ahead","one"]) (by kernel_rfl))))))) (by intro _ _ _ _ us hl;exact match us,hl with | [_,_],_=>rfl) (fun A outer s H E f c hr=>by exact (jV (aM C_is_word (hr.mono (by decide)) rfl (takes_of rfl rfl rfl rfl) (aj ((aq (i:=1))) aA)) (jV (mK (Pk hr.room) (SE.o ((aq (i:=1)))) (SE.o ((aU (aj ((dw rfl T.k_ANY)) (aj ((dw rfl T.k_ALL)) aA)))))) (lD (mK (Pk hr.room) (SE.o ((aq (i:=1)))) (SE.o ((aq (i:=0))))))))))) (aF (fV (by exact uX (Ng:=["word","value","most","is_right","place","item"]) (psg:=["word","value","most"]) (mlam:=eU) (k:=5) (ps:=["ahead","one"]) (cap:=[(1,"roads"),(2,"labels")]) C_need_items (hr.mono (by decide)) (by decide) rfl (takes_of rfl rfl rfl rfl) (by exact fX (by kernel_rfl)) (by kernel_rfl) (lV (aY) (lV (aq (i:=3)) (lV (cH yV (SE.o ((aV jk rfl T.g_len PyProof.Rows.Boot.«len» (aH (SE.o ((aq (i:=1)))) aN)))) (SE.o ((cH jj (SE.o ((aV jk rfl T.g_len PyProof.Rows.Boot.«len» (aH (SE.o ((aq (i:=2)))) aN)))) (SE.o ((aG))))))) (uK T.tb_need_net hcd rfl (List.mem_of_getElem? (i:=0) rfl) T.hu_need_net rfl (LamP.free (by exact fX (ps:=["ahead","one"]) (by kernel_rfl))))))) (by intro _ _ _ _ us hl;exact match us,hl with | [_,_],_=>rfl) (fun A outer s H E f c hr=>by exact (jV (aM C_is_row (hr.mono (by decide)) rfl (takes_of rfl rfl rfl rfl) (aj ((aq (i:=2))) (aj ((aq (i:=3))) (aj ((aq (i:=1))) aA)))) (lD (acF (mK (yO hr.room) (SE.o ((aq (i:=0)))) (SE.o ((aU aA)))) (lD (mK (adb hr T.sm) (SE.o ((bL (SE.o ((bL (SE.o ((aq (i:=0)))) (SE.o ((abt (aG))))))) (SE.o ((aG)))))) (SE.o ((bL (SE.o ((aq (i:=1)))) (SE.o ((aG)))))))))))))) (aK (bA ((aq (i:=0))))))))))))
def Ak:MS:=(fun ls=>bnd ((xH (fun ls=>bnd ((ao (au 1) (ao (fun _=>ret (.raw (.ty "tuple"))) (fun _=>ret []))) ls) (kJ isT)) (fun ls=>bnd ((ao (mL (qK [3] (lB (au 1)) (gQ 3) (fun _=>ret true) (fun ls=>bnd ((ao (au 3) (ao (fun _=>ret (.int 0)) (ao (m2 uR (fun ls=>bnd ((ao (m2 dJ (au 0) (fun _=>ret (.int 0))) (fun _=>ret [])) ls) gj) (fun _=>ret (.int 1))) (fun _=>ret [])))) ls) (aQ 3 (cY))))) (fun _=>ret [])) ls) Et)) ls) fun d=>ret (.nx (ls.set 2 (.va d))))
def Ah:MS:=(eY (J5 (d7 (fun ls=>bnd ((au 2) ls) cQ)) (d7 (fun ls=>bnd ((fun ls=>bnd ((ao (mL (qK [4,5] (fun ls=>bnd ((ao (au 1) (ao (Pr (au 1) (fun ls=>bnd ((fun _=>ret (.int 1)) ls) intD) (fun _=>ret none)) (fun _=>ret []))) ls) abM) (jY 2 (cG (gQ 4) (cG (gQ 5) lY))) (fun _=>ret true) (m2 ltD (au 4) (au 5)))) (fun _=>ret [])) ls) Et) ls) cQ))) (fun ls=>bnd ((ao (au 1) (fun _=>ret [])) ls) fun ds=>bnd (Uv eV ["value"] ds) UW) fJ)
def HD:MS:=(aR Ak Ah)
def oh:List D→M D:=dG 6 HD
theorem Fw (T:Tells w K mg base) (F:DefF K mg "need_failed" (top 36)) (C_is_among:Cal PP w K mg base (TB K) "is_among" 2 3 (cY)):Cal PP w K mg base (TB K) "need_failed" 3 2 oh:=by
 have S:FnScope ["net","failed","is_right","road","one","other"] ["net","failed"] (defScope (top 36)):=⟨rfl,rfl,rfl,by decide +kernel,rfl,by decide +kernel,by decide +kernel⟩
 exact F.cal (N:=["net","failed","is_right","road","one","other"]) (ps:=["net","failed"]) S (by decide) (by intro _ _ _ _ _ _ us hl;exact match us,hl with | [_,_],_=>rfl) fun f cdv A outer s H E hr=>(aF (dF (i:=2) S.nd ((jV (aV (j9 T.is) rfl T.g_isinstance PyProof.Rows.Boot.«isinstance» (aH (SE.o ((aq (i:=1)))) (aH (SE.o ((nZ (v:= .ty "tuple") rfl T.g_tuple PyProof.Rows.Boot.«tuple» rfl))) aN))) (lD (aV (Ii rfl) rfl T.g_all PyProof.Rows.Boot.«all» (aH (SE.o ((SL.se (mG (own:=[("road",3)]) (is:=[3]) rfl S.nd (nU (SE.o ((aq (i:=1))))) (uF ["net","failed","is_right","road","one","other"] (defScope (top 36)) ⟨rfl,by decide +kernel,by decide +kernel,by decide +kernel,by decide +kernel⟩) (fun s H C cl fp=>(bB (i:=3) S.nd)) (fun s H C cl fp=>fQ) (fun s H C cl fp=>(aM C_is_among (hr.mono (by decide)) rfl takes0 (aj ((aq (i:=3))) (aj ((aG)) (aj ((cH DQ (SE.o ((aV jk rfl T.g_len PyProof.Rows.Boot.«len» (aH (SE.o ((bL (SE.o ((aq (i:=0)))) (SE.o ((aG)))))) aN)))) (SE.o ((aG))))) aA))))))))) aN)))))) (aK (cV (STw.st (oW (dD (bV (SE.o ((aq (i:=2)))))) (jD (dD (bV (SE.o ((aV (Ii rfl) rfl T.g_all PyProof.Rows.Boot.«all» (aH (SE.o ((SL.se (mG (own:=[("one",4),("other",5)]) (is:=[4,5]) rfl S.nd (abr rfl T.g_zip (aj ((aq (i:=1))) (aj ((zj (SE.o ((aq (i:=1)))) (ou ((aG))) nW)) aA))) (uF ["net","failed","is_right","road","one","other"] (defScope (top 36)) ⟨rfl,by decide +kernel,by decide +kernel,by decide +kernel,by decide +kernel⟩) (fun s H C cl fp=>(qQ rfl (cJ (bB (i:=4) S.nd) (cJ (bB (i:=5) S.nd) j7)))) (fun s H C cl fp=>fQ) (fun s H C cl fp=>(mK aek (SE.o ((aq (i:=4)))) (SE.o ((aq (i:=5)))))))))) aN))))))))) (aK (SX.ss (T.rD.rz rfl hr.room (takes_of rfl rfl rfl rfl) rfl rfl (aj ((aq (i:=1))) aA)))) bH)))
def dY:MS:=(eY (J5 (d7 (fun ls=>bnd ((fun ls=>bnd ((ao (au 1) (ao (fun _=>ret (.int 2)) (ao (fun _=>ret (.int 2)) (fun _=>ret [])))) ls) (aQ 3 (aZ))) ls) cQ)) (d7 (fun ls=>bnd ((fun ls=>bnd ((ao (m2 dJ (au 1) (fun _=>ret (.int 0))) (ao (fun _=>ret (.int 0)) (ao (m2 uR (fun ls=>bnd ((ao (m2 dJ (au 0) (fun _=>ret (.int 0))) (fun _=>ret [])) ls) gj) (fun _=>ret (.int 1))) (fun _=>ret [])))) ls) (aQ 3 (cY))) ls) cQ))) (cW (fun _=>ret (.bl false))) fJ)
def jM:MS:=(cW (fun ls=>bnd ((ao (m2 dJ (au 0) (fun _=>ret (.int 1))) (ao (m2 dJ (au 1) (fun _=>ret (.int 1))) (ao (fun _=>ret (.int 3000)) (fun _=>ret [])))) ls) (aQ 3 (fj))))
def fM:MS:=(aR dY jM)
def dN:List D→M D:=dG 2 fM
theorem Eu (T:Tells w K mg base) (F:DefF K mg "is_parcel_of" (top 39)) (C_is_tuple:Cal PP w K mg base (TB K) "is_tuple" 1 3 (aZ)) (C_is_among:Cal PP w K mg base (TB K) "is_among" 2 3 (cY)) (C_are_labels:Cal PP w K mg base (TB K) "are_labels" 2 3 (fj)):Cal PP w K mg base (TB K) "is_parcel_of" 3 2 dN:=by
 have S:FnScope ["net","value"] ["net","value"] (defScope (top 39)):=⟨rfl,rfl,rfl,by decide +kernel,rfl,by decide +kernel,by decide +kernel⟩
 exact F.cal (N:=["net","value"]) (ps:=["net","value"]) S (by decide) (by intro _ _ _ _ _ _ us hl;exact match us,hl with | [_,_],_=>rfl) fun f cdv A outer s H E hr=>(aF (cV (STw.st (oW (dD (bV (SE.o ((aM C_is_tuple (hr.mono (by decide)) rfl (takes_of rfl rfl rfl rfl) (aj ((aq (i:=1))) (aj ((aG)) (aj ((aG)) aA)))))))) (jD (dD (bV (SE.o ((aM C_is_among (hr.mono (by decide)) rfl (takes_of rfl rfl rfl rfl) (aj ((bL (SE.o ((aq (i:=1)))) (SE.o ((aG))))) (aj ((aG)) (aj ((cH DQ (SE.o ((aV jk rfl T.g_len PyProof.Rows.Boot.«len» (aH (SE.o ((bL (SE.o ((aq (i:=0)))) (SE.o ((aG)))))) aN)))) (SE.o ((aG))))) aA))))))))))) (aK (bA ((xM)))) bH) (aK (bA ((aM C_are_labels (hr.mono (by decide)) rfl (takes_of rfl rfl rfl rfl) (aj ((bL (SE.o ((aq (i:=0)))) (SE.o ((aG))))) (aj ((bL (SE.o ((aq (i:=1)))) (SE.o ((aG))))) (aj ((nQ rfl T.k_MOST_STACK)) aA))))))))
def iJ:MS:=(fun ls=>bnd ((fun ls=>bnd ((ao (fun ls=>bnd ((ao (au 0) (fun _=>ret [])) ls) (aQ 1 (bY))) (ao (au 1) (fun _=>ret []))) ls) (aQ 2 (oh))) ls) fun _=>ret (.nx ls))
def j6:MS:=(eY (d7 (fun ls=>bnd ((fun ls=>bnd ((ao (au 0) (ao (au 2) (fun _=>ret []))) ls) (aQ 2 (dN))) ls) cQ)) (fun ls=>bnd ((ao (au 2) (fun _=>ret [])) ls) fun ds=>bnd (Uv bW ["value"] ds) UW) fJ)
def rK:MS:=(aR iJ j6)
def jL:List D→M D:=dG 3 rK
theorem M4 (T:Tells w K mg base) (F:DefF K mg "need_all" (top 40)) (C_need_failed:Cal PP w K mg base (TB K) "need_failed" 3 2 (oh)) (C_need_net:Cal PP w K mg base (TB K) "need_net" 8 1 (bY)) (C_is_parcel_of:Cal PP w K mg base (TB K) "is_parcel_of" 3 2 (dN)):Cal PP w K mg base (TB K) "need_all" 9 3 jL:=by
 have S:FnScope ["net","failed","parcel"] ["net","failed","parcel"] (defScope (top 40)):=⟨rfl,rfl,rfl,by decide +kernel,rfl,by decide +kernel,by decide +kernel⟩
 exact F.cal (N:=["net","failed","parcel"]) (ps:=["net","failed","parcel"]) S (by decide) (by intro _ _ _ _ _ _ us hl;exact match us,hl with | [_,_,_],_=>rfl) fun f cdv A outer s H E hr=>(aF (fV (aM C_need_failed (hr.mono (by decide)) rfl (takes_of rfl rfl rfl rfl) (aj ((aM C_need_net (hr.mono (by decide)) rfl (takes_of rfl rfl rfl rfl) (aj ((aq (i:=0))) aA))) (aj ((aq (i:=1))) aA)))) (aK (cV (dD (bV (SE.o ((aM C_is_parcel_of (hr.mono (by decide)) rfl (takes_of rfl rfl rfl rfl) (aj ((aq (i:=0))) (aj ((aq (i:=2))) aA))))))) (aK (SX.ss (T.rP.rz rfl hr.room (takes_of rfl rfl rfl rfl) rfl rfl (aj ((aq (i:=2))) aA)))) bH)))
def qJ:MS:=(cW (mL (fun ls=>bnd ((ao (fun ls=>bnd ((ao (m2 dJ (au 0) (fun _=>ret (.int 0))) (fun _=>ret [])) ls) TF) (BK (m2 dJ (au 0) (fun _=>ret (.int 1))) (fun _=>ret []))) ls) eX)))
def o8:MS:=qJ
def lE:List D→M D:=dG 1 o8
theorem Eo (T:Tells w K mg base) (F:DefF K mg "choice_words" (top 50)):Cal PP w K mg base (TB K) "choice_words" 1 1 lE:=by
 have S:FnScope ["choice"] ["choice"] (defScope (top 50)):=⟨rfl,rfl,rfl,by decide +kernel,rfl,by decide +kernel,by decide +kernel⟩
 exact F.cal (N:=["choice"]) (ps:=["choice"]) S (by decide) (by intro _ _ _ _ _ _ us hl;exact match us,hl with | [_],_=>rfl) fun f cdv A outer s H E hr=>(aK (bA ((SL.se (cD (aj ((bT V6 rfl T.g_str PyProof.Rows.Boot.«str» (aH (SE.o ((bL (SE.o ((aq (i:=0)))) (SE.o ((aG)))))) aN))) (yE (SE.o ((bL (SE.o ((aq (i:=0)))) (SE.o ((aG)))))) aA)))))))
def tH:MS:=(cW (rE (fun _=>ret (.str " , ")) (mL (qK [1] (lB (au 0)) (gQ 1) (fun _=>ret true) (rE (fun _=>ret (.str " ")) (fun ls=>bnd ((ao (au 1) (fun _=>ret [])) ls) (aQ 1 (lE))))))))
def sW:MS:=tH
def pH:List D→M D:=dG 2 sW
theorem IV (T:Tells w K mg base) (F:DefF K mg "group_text" (top 51)) (C_choice_words:Cal PP w K mg base (TB K) "choice_words" 1 1 (lE)):Cal PP w K mg base (TB K) "group_text" 2 1 pH:=by
 have S:FnScope ["group","choice"] ["group"] (defScope (top 51)):=⟨rfl,rfl,rfl,by decide +kernel,rfl,by decide +kernel,by decide +kernel⟩
 exact F.cal (N:=["group","choice"]) (ps:=["group"]) S (by decide) (by intro _ _ _ _ _ _ us hl;exact match us,hl with | [_],_=>rfl) fun f cdv A outer s H E hr=>(aK (bA ((pQ (SE.o ((aY))) (SE.o ((SL.se (mG (own:=[("choice",1)]) (is:=[1]) rfl S.nd (nU (SE.o ((aq (i:=0))))) (uF ["group","choice"] (defScope (top 51)) ⟨rfl,by decide +kernel,by decide +kernel,by decide +kernel,by decide +kernel⟩) (fun s H C cl fp=>(bB (i:=1) S.nd)) (fun s H C cl fp=>fQ) (fun s H C cl fp=>(pQ (SE.o ((aY))) (SE.o ((aM C_choice_words (hr.mono (by decide)) rfl takes0 (aj ((aq (i:=1))) aA))))))))))))))
def xU:MS:=(fun ls=>bnd ((au 0) ls) fun d=>nxO ((jY 2 (cG (jY 2 (cG (gQ 3) (cG (gQ 4) lY))) (cG (gQ 2) lY))) d ls))
def qO:MS:=(fun ls=>bnd ((Yl [(fun ls=>bnd ((fun _=>ret (.str "row")) ls) Jd),(fun _=>ret (.str " ")),(fun ls=>bnd ((au 3) ls) Jd),(fun _=>ret (.str " ")),(fun ls=>bnd ((Jf (fun ls=>bnd (m2 Jx (au 4) (fun _=>ret (.str "")) ls) jR) (au 4) (fun _=>ret (.str "-"))) ls) Jd)] Str.empty) ls) fun d=>ret (.nx (ls.set 1 (.va d))))
def iY:MS:=(eY (fun ls=>bnd (m2 v7 (au 2) (fun _=>ret (.str "home")) ls) jR) (cW (m2 iT (m2 iT (au 1) (fun _=>ret (.str " "))) (fun _=>ret (.str "home")))) fJ)
def yq:MS:=(cW (m2 iT (m2 iT (au 1) (fun _=>ret (.str " > "))) (rE (fun _=>ret (.str " / ")) (mL (qK [5] (lB (au 2)) (gQ 5) (fun _=>ret true) (fun ls=>bnd ((ao (au 5) (fun _=>ret [])) ls) (aQ 1 (pH))))))))
def wF:MS:=(aR xU (aR qO (aR iY yq)))
def u6:List D→M D:=dG 6 wF
theorem Nv (T:Tells w K mg base) (F:DefF K mg "row_text" (top 52)) (C_group_text:Cal PP w K mg base (TB K) "group_text" 2 1 (pH)):Cal PP w K mg base (TB K) "row_text" 3 1 u6:=by
 have S:FnScope ["row","begun","groups","road","top","group"] ["row"] (defScope (top 52)):=⟨rfl,rfl,rfl,by decide +kernel,rfl,by decide +kernel,by decide +kernel⟩
 exact F.cal (N:=["row","begun","groups","road","top","group"]) (ps:=["row"]) S (by decide) (by intro _ _ _ _ _ _ us hl;exact match us,hl with | [_],_=>rfl) fun f cdv A outer s H E hr=>(aF (K9 ((aq (i:=0))) (qQ rfl (cJ (qQ rfl (cJ (bB (i:=3) S.nd) (cJ (bB (i:=4) S.nd) j7))) (cJ (bB (i:=2) S.nd) j7)))) (aF (dF (i:=1) S.nd ((Td (nY ((Cm (SE.o ((dw rfl T.k_ROW))))) (nY ((aY)) (nY ((Cm (SE.o ((aq (i:=3)))))) (nY ((aY)) (nY ((Cm (SE.o ((Iu (eE (PB hr.room) (SE.o ((aq (i:=4)))) (SE.o ((aY)))) (aq (i:=4)) (dw rfl T.k_NO_LABEL)))))) W8)))))))) (aF (cV (eE (yO hr.room) (SE.o ((aq (i:=2)))) (SE.o ((dw rfl T.k_HOME)))) (aK (bA ((cH jj (SE.o ((cH jj (SE.o ((aq (i:=1)))) (SE.o ((aY)))))) (SE.o ((dw rfl T.k_HOME))))))) bH) (aK (bA ((cH jj (SE.o ((cH jj (SE.o ((aq (i:=1)))) (SE.o ((aY)))))) (SE.o ((pQ (SE.o ((aY))) (SE.o ((SL.se (mG (own:=[("group",5)]) (is:=[5]) rfl S.nd (nU (SE.o ((aq (i:=2))))) (uF ["row","begun","groups","road","top","group"] (defScope (top 52)) ⟨rfl,by decide +kernel,by decide +kernel,by decide +kernel,by decide +kernel⟩) (fun s H C cl fp=>(bB (i:=5) S.nd)) (fun s H C cl fp=>fQ) (fun s H C cl fp=>(aM C_group_text (hr.mono (by decide)) rfl takes0 (aj ((aq (i:=5))) aA)))))))))))))))))
def qd:MS:=(fun ls=>bnd ((fun ls=>bnd ((ao (au 0) (fun _=>ret [])) ls) (aQ 1 (bY))) ls) fun _=>ret (.nx ls))
def qP:MS:=(fun ls=>bnd ((mL (fun ls=>bnd ((mL (fun ls=>bnd ((ao (rE (fun _=>ret (.str " ")) (mL (fun ls=>bnd ((ao (fun _=>ret (.str "labels")) (BK (m2 dJ (au 0) (fun _=>ret (.int 1))) (fun _=>ret []))) ls) eX))) (fun _=>ret [])) ls) eX)) ls) fun x=>bnd ((mL (qK [2,3] (lB (m2 dJ (au 0) (fun _=>ret (.int 0)))) (jY 2 (cG (gQ 2) (cG (gQ 3) lY))) (fun _=>ret true) (Yl [(fun ls=>bnd ((fun _=>ret (.str "road")) ls) Jd),(fun _=>ret (.str " ")),(fun ls=>bnd ((au 2) ls) Jd),(fun _=>ret (.str " ")),(fun ls=>bnd ((au 3) ls) Jd)] Str.empty))) ls) fun y=>QT x y)) ls) fun d=>ret (.nx (ls.set 1 (.va d))))
def wJ:MS:=(cW (rE (fun _=>ret (.str "\n")) (mL (fun ls=>bnd ((au 1) ls) fun x=>bnd ((mL (qK [4] (lB (m2 dJ (au 0) (fun _=>ret (.int 2)))) (gQ 4) (fun _=>ret true) (fun ls=>bnd ((ao (au 4) (fun _=>ret [])) ls) (aQ 1 (u6))))) ls) fun y=>QT x y))))
def rC:MS:=(aR qd (aR qP wJ))
def jT:List D→M D:=dG 5 rC
theorem M7 (T:Tells w K mg base) (F:DefF K mg "net_text" (top 53)) (C_need_net:Cal PP w K mg base (TB K) "need_net" 8 1 (bY)) (C_row_text:Cal PP w K mg base (TB K) "row_text" 3 1 (u6)):Cal PP w K mg base (TB K) "net_text" 9 1 jT:=by
 have S:FnScope ["net","lines","one","other","row"] ["net"] (defScope (top 53)):=⟨rfl,rfl,rfl,by decide +kernel,rfl,by decide +kernel,by decide +kernel⟩
 exact F.cal (N:=["net","lines","one","other","row"]) (ps:=["net"]) S (by decide) (by intro _ _ _ _ _ _ us hl;exact match us,hl with | [_],_=>rfl) fun f cdv A outer s H E hr=>(aF (fV (aM C_need_net (hr.mono (by decide)) rfl (takes_of rfl rfl rfl rfl) (aj ((aq (i:=0))) aA))) (aF (dF (i:=1) S.nd ((SL.se (Hi (SE.o ((SL.se (cD (aj ((pQ (SE.o ((aY))) (SE.o ((SL.se (cD (aj ((dw rfl T.k_LABELS)) (yE (SE.o ((bL (SE.o ((aq (i:=0)))) (SE.o ((aG)))))) aA)))))))) aA))))) (SE.o ((SL.se (mG (own:=[("one",2),("other",3)]) (is:=[2,3]) rfl S.nd (nU (SE.o ((bL (SE.o ((aq (i:=0)))) (SE.o ((aG))))))) (uF ["net","lines","one","other","row"] (defScope (top 53)) ⟨rfl,by decide +kernel,by decide +kernel,by decide +kernel,by decide +kernel⟩) (fun s H C cl fp=>(qQ rfl (cJ (bB (i:=2) S.nd) (cJ (bB (i:=3) S.nd) j7)))) (fun s H C cl fp=>fQ) (fun s H C cl fp=>(Td (nY ((Cm (SE.o ((dw rfl T.k_ROAD))))) (nY ((aY)) (nY ((Cm (SE.o ((aq (i:=2)))))) (nY ((aY)) (nY ((Cm (SE.o ((aq (i:=3)))))) W8))))))))))))))) (aK (bA ((pQ (SE.o ((aY))) (SE.o ((SL.se (Hi (SE.o ((aq (i:=1)))) (SE.o ((SL.se (mG (own:=[("row",4)]) (is:=[4]) rfl S.nd (nU (SE.o ((bL (SE.o ((aq (i:=0)))) (SE.o ((aG))))))) (uF ["net","lines","one","other","row"] (defScope (top 53)) ⟨rfl,by decide +kernel,by decide +kernel,by decide +kernel,by decide +kernel⟩) (fun s H C cl fp=>(bB (i:=4) S.nd)) (fun s H C cl fp=>fQ) (fun s H C cl fp=>(aM C_row_text (hr.mono (by decide)) rfl takes0 (aj ((aq (i:=4))) aA)))))))))))))))))
def zW:MS:=(cW (rE (fun _=>ret (.str " ")) (mL (fun ls=>bnd ((ao (fun ls=>bnd ((ao (m2 dJ (au 0) (fun _=>ret (.int 0))) (fun _=>ret [])) ls) TF) (BK (m2 dJ (au 0) (fun _=>ret (.int 1))) (fun _=>ret []))) ls) eX))))
def Ew:MS:=zW
def qT:List D→M D:=dG 1 Ew
theorem El (T:Tells w K mg base) (F:DefF K mg "parcel_words" (top 54)):Cal PP w K mg base (TB K) "parcel_words" 1 1 qT:=by
 have S:FnScope ["parcel"] ["parcel"] (defScope (top 54)):=⟨rfl,rfl,rfl,by decide +kernel,rfl,by decide +kernel,by decide +kernel⟩
 exact F.cal (N:=["parcel"]) (ps:=["parcel"]) S (by decide) (by intro _ _ _ _ _ _ us hl;exact match us,hl with | [_],_=>rfl) fun f cdv A outer s H E hr=>(aK (bA ((pQ (SE.o ((aY))) (SE.o ((SL.se (cD (aj ((bT V6 rfl T.g_str PyProof.Rows.Boot.«str» (aH (SE.o ((bL (SE.o ((aq (i:=0)))) (SE.o ((aG)))))) aN))) (yE (SE.o ((bL (SE.o ((aq (i:=0)))) (SE.o ((aG)))))) aA))))))))))
def iH:MS:=(fun ls=>bnd ((fun ls=>bnd ((ao (au 0) (ao (fun ls=>bnd ((fun _=>ret []) ls) bK) (ao (au 1) (fun _=>ret [])))) ls) (aQ 3 (jL))) ls) fun _=>ret (.nx ls))
def Bj:MS:=(cW (fun ls=>bnd ((ao (au 1) (fun _=>ret [])) ls) (aQ 1 (qT))))
def iQ:MS:=(aR iH Bj)
def fD:List D→M D:=dG 2 iQ
theorem GD (T:Tells w K mg base) (F:DefF K mg "parcel_text" (top 55)) (C_need_all:Cal PP w K mg base (TB K) "need_all" 9 3 (jL)) (C_parcel_words:Cal PP w K mg base (TB K) "parcel_words" 1 1 (qT)):Cal PP w K mg base (TB K) "parcel_text" 10 2 fD:=by
 have S:FnScope ["net","parcel"] ["net","parcel"] (defScope (top 55)):=⟨rfl,rfl,rfl,by decide +kernel,rfl,by decide +kernel,by decide +kernel⟩
 exact F.cal (N:=["net","parcel"]) (ps:=["net","parcel"]) S (by decide) (by intro _ _ _ _ _ _ us hl;exact match us,hl with | [_,_],_=>rfl) fun f cdv A outer s H E hr=>(aF (fV (aM C_need_all (hr.mono (by decide)) rfl (takes_of rfl rfl rfl rfl) (aj ((aq (i:=0))) (aj ((aU aA)) (aj ((aq (i:=1))) aA))))) (aK (bA ((aM C_parcel_words (hr.mono (by decide)) rfl (takes_of rfl rfl rfl rfl) (aj ((aq (i:=1))) aA))))))
def qj:MS:=(cW (m2 v7 (fun ls=>bnd ((au 0) ls) (ji [aD] "at")) (fun ls=>bnd ((ao (fun ls=>bnd ((au 0) ls) (ji [aD] "words")) (fun _=>ret [])) ls) gj)))
def oR:MS:=qj
def aW:List D→M D:=dG 1 oR
theorem Es (T:Tells w K mg base) (cl:Cls K aD) (F:DefM K aD "is_over" "Line.is_over" (met 56 1)):CalM PP w K mg base (TB K) aD "is_over" 1 1 aW:=by
 have S:FnScope ["self"] ["self"] (defScope (met 56 1)):=⟨rfl,rfl,rfl,by decide +kernel,rfl,by decide +kernel,by decide +kernel⟩
 exact DefM.cal (N:=["self"]) (ps:=["self"]) cl F S (by decide) (by intro _ _ _ _ _ _ us hl;exact match us,hl with | [_],_=>rfl) fun f cdv A outer s H E hr=>(aK (bA ((mK (yO hr.room) (SE.o ((kY T.fd_at (aq (i:=0))))) (SE.o ((aV jk rfl T.g_len PyProof.Rows.Boot.«len» (aH (SE.o ((kY T.fd_words (aq (i:=0))))) aN))))))))
def rR:MS:=(fun ls=>bnd ((ao (fun ls=>bnd ((au 0) ls) (ji [aD] "number")) (ao (fun ls=>bnd ((au 0) ls) (ji [aD] "at")) (fun _=>ret []))) ls) fun ds=>bnd (Uv bF ["line","word"] ds) UW)
def qG:MS:=rR
def d8:List D→M D:=dG 1 qG
theorem G4 (T:Tells w K mg base) (cl:Cls K aD) (F:DefM K aD "refuse" "Line.refuse" (met 56 2)):CalM PP w K mg base (TB K) aD "refuse" 3 1 d8:=by
 have S:FnScope ["self"] ["self"] (defScope (met 56 2)):=⟨rfl,rfl,rfl,by decide +kernel,rfl,by decide +kernel,by decide +kernel⟩
 exact DefM.cal (N:=["self"]) (ps:=["self"]) cl F S (by decide) (by intro _ _ _ _ _ _ us hl;exact match us,hl with | [_],_=>rfl) fun f cdv A outer s H E hr=>(aK (SX.ss (T.mU.rz rfl hr.room (takes_of rfl rfl rfl rfl) rfl rfl (aj ((kY T.fd_number (aq (i:=0)))) (aj ((kY T.fd_at (aq (i:=0)))) aA)))))
def qL:MS:=(cW (xH (WM (fun ls=>bnd ((au 0) ls) fun d=>bM aD "is_over" 1 (aW) d (ret []))) (m2 (inG tpT) (m2 dJ (fun ls=>bnd ((au 0) ls) (ji [aD] "words")) (fun ls=>bnd ((au 0) ls) (ji [aD] "at"))) (au 1))))
def pq:MS:=qL
def dO:List D→M D:=dG 2 pq
theorem Ep (T:Tells w K mg base) (cl:Cls K aD) (F:DefM K aD "is_next" "Line.is_next" (met 56 3)) (M_Line_is_over:CalM PP w K mg base (TB K) aD "is_over" 1 1 (aW)):CalM PP w K mg base (TB K) aD "is_next" 2 2 dO:=by
 have S:FnScope ["self","some"] ["self","some"] (defScope (met 56 3)):=⟨rfl,rfl,rfl,by decide +kernel,rfl,by decide +kernel,by decide +kernel⟩
 exact DefM.cal (N:=["self","some"]) (ps:=["self","some"]) cl F S (by decide) (by intro _ _ _ _ _ _ us hl;exact match us,hl with | [_,_],_=>rfl) fun f cdv A outer s H E hr=>(aK (bA ((jV (Qt (dI M_Line_is_over (hr.mono (by decide)) (takes_of rfl rfl rfl rfl) ((aq (i:=0))))) (lD (mK (acD T.tp hr.room) (SE.o ((bL (SE.o ((kY T.fd_words (aq (i:=0))))) (SE.o ((kY T.fd_at (aq (i:=0)))))))) (SE.o ((aq (i:=1))))))))))
def fP:MS:=(eY (d7 (fun ls=>bnd ((fun ls=>bnd ((au 0) ls) fun d=>bM aD "is_next" 2 (dO) d ((ao (au 1) (fun _=>ret [])) ls)) ls) cQ)) (fun ls=>bnd ((fun ls=>bnd ((au 0) ls) fun d=>bM aD "refuse" 1 (d8) d (ret [])) ls) fun _=>ret (.nx ls)) fJ)
def lG:MS:=(cW (m2 dJ (fun ls=>bnd ((au 0) ls) (ji [aD] "words")) (m2 uR (fun ls=>bnd ((au 0) ls) (ji [aD] "at")) (fun _=>ret (.int 1)))))
def qZ:MS:=(aR fP (aR (JK [aD] "at" 1 (au 0)) lG))
def aX:List D→M D:=dG 2 qZ
theorem G7 (T:Tells w K mg base) (cl:Cls K aD) (F:DefM K aD "one_of" "Line.one_of" (met 56 4)) (M_Line_is_next:CalM PP w K mg base (TB K) aD "is_next" 2 2 (dO)) (M_Line_refuse:CalM PP w K mg base (TB K) aD "refuse" 3 1 (d8)):CalM PP w K mg base (TB K) aD "one_of" 4 2 aX:=by
 have S:FnScope ["self","some"] ["self","some"] (defScope (met 56 4)):=⟨rfl,rfl,rfl,by decide +kernel,rfl,by decide +kernel,by decide +kernel⟩
 exact DefM.cal (N:=["self","some"]) (ps:=["self","some"]) cl F S (by decide) (by intro _ _ _ _ _ _ us hl;exact match us,hl with | [_,_],_=>rfl) fun f cdv A outer s H E hr=>(aF (cV (dD (bV (SE.o ((lH M_Line_is_next (hr.mono (by decide)) (takes_of rfl rfl rfl rfl) ((aq (i:=0))) (aj ((aq (i:=1))) aA)))))) (aK (fV (dI M_Line_refuse (hr.mono (by decide)) (takes_of rfl rfl rfl rfl) ((aq (i:=0)))))) bH) (aF (Q8 T.fd_at ((aq (i:=0))) ((aG))) (aK (bA ((bL (SE.o ((kY T.fd_words (aq (i:=0))))) (SE.o ((cH DQ (SE.o ((kY T.fd_at (aq (i:=0))))) (SE.o ((aG))))))))))))
def eO:MS:=(eY (J5 (fun ls=>bnd ((fun ls=>bnd ((au 0) ls) fun d=>bM aD "is_over" 1 (aW) d (ret [])) ls) cQ) (d7 (fun ls=>bnd ((fun ls=>bnd ((ao (m2 dJ (fun ls=>bnd ((au 0) ls) (ji [aD] "words")) (fun ls=>bnd ((au 0) ls) (ji [aD] "at"))) (fun _=>ret [])) ls) (aQ 1 (fL))) ls) cQ))) (fun ls=>bnd ((fun ls=>bnd ((au 0) ls) fun d=>bM aD "refuse" 1 (d8) d (ret [])) ls) fun _=>ret (.nx ls)) fJ)
def oF:MS:=(cW (m2 dJ (fun ls=>bnd ((au 0) ls) (ji [aD] "words")) (m2 uR (fun ls=>bnd ((au 0) ls) (ji [aD] "at")) (fun _=>ret (.int 1)))))
def kW:MS:=(aR eO (aR (JK [aD] "at" 1 (au 0)) oF))
def cR:List D→M D:=dG 1 kW
theorem Ab (T:Tells w K mg base) (cl:Cls K aD) (F:DefM K aD "next_word" "Line.next_word" (met 56 5)) (M_Line_is_over:CalM PP w K mg base (TB K) aD "is_over" 1 1 (aW)) (C_is_word:Cal PP w K mg base (TB K) "is_word" 1 1 (fL)) (M_Line_refuse:CalM PP w K mg base (TB K) aD "refuse" 3 1 (d8)):CalM PP w K mg base (TB K) aD "next_word" 4 1 cR:=by
 have S:FnScope ["self"] ["self"] (defScope (met 56 5)):=⟨rfl,rfl,rfl,by decide +kernel,rfl,by decide +kernel,by decide +kernel⟩
 exact DefM.cal (N:=["self"]) (ps:=["self"]) cl F S (by decide) (by intro _ _ _ _ _ _ us hl;exact match us,hl with | [_],_=>rfl) fun f cdv A outer s H E hr=>(aF (cV (STw.st (oW (bV (SE.o ((dI M_Line_is_over (hr.mono (by decide)) (takes_of rfl rfl rfl rfl) ((aq (i:=0))))))) (jD (dD (bV (SE.o ((aM C_is_word (hr.mono (by decide)) rfl (takes_of rfl rfl rfl rfl) (aj ((bL (SE.o ((kY T.fd_words (aq (i:=0))))) (SE.o ((kY T.fd_at (aq (i:=0))))))) aA))))))))) (aK (fV (dI M_Line_refuse (hr.mono (by decide)) (takes_of rfl rfl rfl rfl) ((aq (i:=0)))))) bH) (aF (Q8 T.fd_at ((aq (i:=0))) ((aG))) (aK (bA ((bL (SE.o ((kY T.fd_words (aq (i:=0))))) (SE.o ((cH DQ (SE.o ((kY T.fd_at (aq (i:=0))))) (SE.o ((aG))))))))))))
def lM:MS:=(fun ls=>bnd ((fun ls=>bnd ((fun _=>ret []) ls) eX) ls) fun ds=>ret (.nx (ls.set 1 (.ow ds))))
def ju:MS:=(jC 1 (fun ls=>bnd ((au 0) ls) fun d=>bM aD "next_word" 1 (cR) d (ret [])))
def ig:MS:=ju
def lN:MS:=(fun ls=>fW (Zo (d7 (fun ls=>bnd ((fun ls=>bnd ((au 0) ls) fun d=>bM aD "is_over" 1 (aW) d (ret [])) ls) cQ)) (fun ls=>bnd ((fun ls=>bnd ((ao (m2 dJ (fun ls=>bnd ((au 0) ls) (ji [aD] "words")) (fun ls=>bnd ((au 0) ls) (ji [aD] "at"))) (fun _=>ret [])) ls) (aQ 1 (fL))) ls) cQ)) ig 5000 ls)
def uI:MS:=(cW (fun ls=>bnd ((ao (iU 1) (fun _=>ret [])) ls) jP))
def jm:MS:=(aR lM (aR lN uI))
def dB:List D→M D:=dG 2 jm
theorem yL (T:Tells w K mg base) (cl:Cls K aD) (F:DefM K aD "next_labels" "Line.next_labels" (met 56 6)) (M_Line_is_over:CalM PP w K mg base (TB K) aD "is_over" 1 1 (aW)) (C_is_word:Cal PP w K mg base (TB K) "is_word" 1 1 (fL)) (M_Line_next_word:CalM PP w K mg base (TB K) aD "next_word" 4 1 (cR)):CalM PP w K mg base (TB K) aD "next_labels" 5 1 dB:=by
 have S:FnScope ["self","found"] ["self"] (defScope (met 56 6)):=⟨rfl,rfl,rfl,by decide +kernel,rfl,by decide +kernel,by decide +kernel⟩
 exact DefM.cal (N:=["self","found"]) (ps:=["self"]) cl F S (by decide) (by intro _ _ _ _ _ _ us hl;exact match us,hl with | [_],_=>rfl) fun f cdv A outer s H E hr=>(aF (rO (i:=1) S.nd (cD aA)) (aF (Nh 5000 (passes_of rfl) (STw.st (Z6 (dD (bV (SE.o ((dI M_Line_is_over (hr.mono (by decide)) (takes_of rfl rfl rfl rfl) ((aq (i:=0)))))))) (Vg (bV (SE.o ((aM C_is_word (hr.mono (by decide)) rfl (takes_of rfl rfl rfl rfl) (aj ((bL (SE.o ((kY T.fd_words (aq (i:=0))))) (SE.o ((kY T.fd_at (aq (i:=0))))))) aA)))))))) (aK (cO (i:=1) ((dI M_Line_next_word (hr.mono (by decide)) (takes_of rfl rfl rfl rfl) ((aq (i:=0)))))))) (aK (bA ((bT jG rfl T.g_tuple PyProof.Rows.Boot.«tuple» (aH (iw (i:=1)) aN)))))))
def eZ:MS:=(fun ls=>bnd ((fun ls=>bnd ((ao (fun ls=>bnd ((au 0) ls) fun d=>bM aD "one_of" 2 (aX) d ((ao (fun _=>ret (.raw (.ref dH))) (fun _=>ret [])) ls)) (fun _=>ret [])) ls) gR) ls) fun d=>ret (.nx (ls.set 1 (.va d))))
def kZ:MS:=(cW (fun ls=>bnd ((ao (au 1) (ao (fun ls=>bnd ((au 0) ls) fun d=>bM aD "next_labels" 1 (dB) d (ret [])) (fun _=>ret []))) ls) bK))
def jo:MS:=(aR eZ kZ)
def bZ:List D→M D:=dG 2 jo
theorem yM (T:Tells w K mg base) (cl:Cls K aD) (F:DefM K aD "next_choice" "Line.next_choice" (met 56 7)) (M_Line_one_of:CalM PP w K mg base (TB K) aD "one_of" 4 2 (aX)) (M_Line_next_labels:CalM PP w K mg base (TB K) aD "next_labels" 5 1 (dB)):CalM PP w K mg base (TB K) aD "next_choice" 6 1 bZ:=by
 have S:FnScope ["self","road"] ["self"] (defScope (met 56 7)):=⟨rfl,rfl,rfl,by decide +kernel,rfl,by decide +kernel,by decide +kernel⟩
 exact DefM.cal (N:=["self","road"]) (ps:=["self"]) cl F S (by decide) (by intro _ _ _ _ _ _ us hl;exact match us,hl with | [_],_=>rfl) fun f cdv A outer s H E hr=>(aF (dF (i:=1) S.nd ((bT wO rfl T.g_int PyProof.Rows.Boot.«int» (aH (SE.o ((lH M_Line_one_of (hr.mono (by decide)) (takes_of rfl rfl rfl rfl) ((aq (i:=0))) (aj ((gM (v:= .ref dH) rfl T.g_DIGITS rfl (fun _=> .raw _))) aA)))) aN)))) (aK (bA ((aU (aj ((aq (i:=1))) (aj ((dI M_Line_next_labels (hr.mono (by decide)) (takes_of rfl rfl rfl rfl) ((aq (i:=0))))) aA)))))))
def oO:MS:=(eY (d7 (fun ls=>bnd ((fun ls=>bnd ((au 0) ls) fun d=>bM aD "is_over" 1 (aW) d (ret [])) ls) cQ)) (fun ls=>bnd ((fun ls=>bnd ((au 0) ls) fun d=>bM aD "refuse" 1 (d8) d (ret [])) ls) fun _=>ret (.nx ls)) fJ)
def kE:MS:=oO
def bR:List D→M D:=dG 1 kE
theorem Ae (T:Tells w K mg base) (cl:Cls K aD) (F:DefM K aD "need_over" "Line.need_over" (met 56 8)) (M_Line_is_over:CalM PP w K mg base (TB K) aD "is_over" 1 1 (aW)) (M_Line_refuse:CalM PP w K mg base (TB K) aD "refuse" 3 1 (d8)):CalM PP w K mg base (TB K) aD "need_over" 4 1 bR:=by
 have S:FnScope ["self"] ["self"] (defScope (met 56 8)):=⟨rfl,rfl,rfl,by decide +kernel,rfl,by decide +kernel,by decide +kernel⟩
 exact DefM.cal (N:=["self"]) (ps:=["self"]) cl F S (by decide) (by intro _ _ _ _ _ _ us hl;exact match us,hl with | [_],_=>rfl) fun f cdv A outer s H E hr=>(aK (cV (dD (bV (SE.o ((dI M_Line_is_over (hr.mono (by decide)) (takes_of rfl rfl rfl rfl) ((aq (i:=0)))))))) (aK (fV (dI M_Line_refuse (hr.mono (by decide)) (takes_of rfl rfl rfl rfl) ((aq (i:=0)))))) bH))
def pB:MS:=(Kf [aD] "words" (mL (G9 (au 1) (fun _=>ret (.str " ")))) (au 0))
def m9:MS:=(aR pB (aR (Kf [aD] "number" (au 2) (au 0)) (Kf [aD] "at" (fun _=>ret (.int 0)) (au 0))))
def dh:List D→M D:=dG 3 m9
theorem CT (T:Tells w K mg base) (F:DefI K mg "Line" "Line.__init__" aD (met 56 0)):MkM PP w K mg base (TB K) "Line" aD 1 3 dh:=by
 have S:FnScope ["self","text","number"] ["self","text","number"] (defScope (met 56 0)):=⟨rfl,rfl,rfl,by decide +kernel,rfl,by decide +kernel,by decide +kernel⟩
 exact F.mk_ (N:=["self","text","number"]) (ps:=["self","text","number"]) S (by decide) (by intro _ _ _ _ _ _ us hl;exact match us,hl with | [_,_,_],_=>rfl) fun f cdv A outer s H E hr=>(aF (Kz T.fd_words ((aq (i:=0))) ((SL.se (Gp (SE.o ((aq (i:=1)))) (SE.o ((aY))))))) (aF (Kz T.fd_number ((aq (i:=0))) ((aq (i:=2)))) (aK (Kz T.fd_at ((aq (i:=0))) ((aG))))))
def jF:MS:=(fun ls=>bnd ((fun ls=>bnd ((fun _=>ret []) ls) eX) ls) fun d1=>bnd ((fun ls=>bnd ((ao (fun ls=>bnd ((au 0) ls) fun d=>bM aD "next_choice" 1 (bZ) d (ret [])) (fun _=>ret [])) ls) eX) ls) fun d2=>ret (.nx ((ls.set 1 (.ow d1)).set 2 (.ow d2))))
def fO:MS:=(eY (fun ls=>bnd (m2 v7 (fun ls=>bnd ((au 0) ls) fun d=>bM aD "one_of" 2 (aX) d ((ao (fun ls=>bnd ((ao (fun _=>ret (.str ",")) (ao (fun _=>ret (.str "/")) (fun _=>ret []))) ls) bK) (fun _=>ret [])) ls)) (fun _=>ret (.str "/")) ls) jR) (aR (jC 1 (fun ls=>bnd ((ao (iU 2) (fun _=>ret [])) ls) jP)) (fun ls=>bnd ((fun ls=>bnd ((fun _=>ret []) ls) eX) ls) fun ds=>ret (.nx (ls.set 2 (.ow ds))))) fJ)
def lJ:MS:=(jC 2 (fun ls=>bnd ((au 0) ls) fun d=>bM aD "next_choice" 1 (bZ) d (ret [])))
def dM:MS:=(aR fO lJ)
def vC:MS:=(fun ls=>fW (d7 (fun ls=>bnd ((fun ls=>bnd ((au 0) ls) fun d=>bM aD "is_over" 1 (aW) d (ret [])) ls) cQ)) dM 5000 ls)
def vO:MS:=(cW (fun ls=>bnd ((BK (iU 1) (ao (fun ls=>bnd ((ao (iU 2) (fun _=>ret [])) ls) jP) (fun _=>ret []))) ls) bK))
def vh:MS:=(aR jF (aR vC vO))
def rG:List D→M D:=dG 3 vh
theorem Ky (T:Tells w K mg base) (F:DefF K mg "groups_in" (top 57)) (M_Line_next_choice:CalM PP w K mg base (TB K) aD "next_choice" 6 1 (bZ)) (M_Line_is_over:CalM PP w K mg base (TB K) aD "is_over" 1 1 (aW)) (M_Line_one_of:CalM PP w K mg base (TB K) aD "one_of" 4 2 (aX)):Cal PP w K mg base (TB K) "groups_in" 7 1 rG:=by
 have S:FnScope ["line","groups","group"] ["line"] (defScope (top 57)):=⟨rfl,rfl,rfl,by decide +kernel,rfl,by decide +kernel,by decide +kernel⟩
 exact F.cal (N:=["line","groups","group"]) (ps:=["line"]) S (by decide) (by intro _ _ _ _ _ _ us hl;exact match us,hl with | [_],_=>rfl) fun f cdv A outer s H E hr=>(aF (X6 (i:=1) (j:=2) rfl S.nd (cD aA) (cD (aj ((dI M_Line_next_choice (hr.mono (by decide)) (takes_of rfl rfl rfl rfl) ((aq (i:=0))))) aA))) (aF (Nh 5000 (passes_of rfl) (dD (bV (SE.o ((dI M_Line_is_over (hr.mono (by decide)) (takes_of rfl rfl rfl rfl) ((aq (i:=0)))))))) (aF (cV (eE (yO hr.room) (SE.o ((lH M_Line_one_of (hr.mono (by decide)) (takes_of rfl rfl rfl rfl) ((aq (i:=0))) (aj ((aU (aj ((dw rfl T.k_OR)) (aj ((dw rfl T.k_ELSE)) aA)))) aA)))) (SE.o ((dw rfl T.k_ELSE)))) (aF (cO (i:=1) ((bT jG rfl T.g_tuple PyProof.Rows.Boot.«tuple» (aH (iw (i:=2)) aN)))) (aK (rO (i:=2) S.nd (cD aA)))) bH) (aK (cO (i:=2) ((dI M_Line_next_choice (hr.mono (by decide)) (takes_of rfl rfl rfl rfl) ((aq (i:=0))))))))) (aK (bA ((aU (yE (iw (i:=1)) (aj ((bT jG rfl T.g_tuple PyProof.Rows.Boot.«tuple» (aH (iw (i:=2)) aN))) aA))))))))
def kh:MS:=(fun ls=>bnd ((fun ls=>bnd ((ao (fun ls=>bnd ((au 0) ls) fun d=>bM aD "one_of" 2 (aX) d ((ao (fun _=>ret (.raw (.ref dH))) (fun _=>ret [])) ls)) (fun _=>ret [])) ls) gR) ls) fun d=>ret (.nx (ls.set 1 (.va d))))
def jh:MS:=(eY (fun ls=>bnd ((fun ls=>bnd ((au 0) ls) fun d=>bM aD "is_next" 2 (dO) d ((ao (fun ls=>bnd ((ao (fun _=>ret (.str "-")) (fun _=>ret [])) ls) bK) (fun _=>ret [])) ls)) ls) cQ) (aR (fun ls=>bnd ((fun ls=>bnd ((au 0) ls) fun d=>bM aD "one_of" 2 (aX) d ((ao (fun ls=>bnd ((ao (fun _=>ret (.str "-")) (fun _=>ret [])) ls) bK) (fun _=>ret [])) ls)) ls) fun _=>ret (.nx ls)) (cW (fun ls=>bnd ((ao (au 1) (ao (fun _=>ret (.str "")) (fun _=>ret []))) ls) bK))) fJ)
def pJ:MS:=(cW (fun ls=>bnd ((ao (au 1) (ao (fun ls=>bnd ((au 0) ls) fun d=>bM aD "next_word" 1 (cR) d (ret [])) (fun _=>ret []))) ls) bK))
def Cy:MS:=(aR kh (aR jh pJ))
def BW:List D→M D:=dG 2 Cy
theorem Ul (T:Tells w K mg base) (F:DefF K mg "key_in" (top 58)) (M_Line_one_of:CalM PP w K mg base (TB K) aD "one_of" 4 2 (aX)) (M_Line_is_next:CalM PP w K mg base (TB K) aD "is_next" 2 2 (dO)) (M_Line_next_word:CalM PP w K mg base (TB K) aD "next_word" 4 1 (cR)):Cal PP w K mg base (TB K) "key_in" 5 1 BW:=by
 have S:FnScope ["line","road"] ["line"] (defScope (top 58)):=⟨rfl,rfl,rfl,by decide +kernel,rfl,by decide +kernel,by decide +kernel⟩
 exact F.cal (N:=["line","road"]) (ps:=["line"]) S (by decide) (by intro _ _ _ _ _ _ us hl;exact match us,hl with | [_],_=>rfl) fun f cdv A outer s H E hr=>(aF (dF (i:=1) S.nd ((bT wO rfl T.g_int PyProof.Rows.Boot.«int» (aH (SE.o ((lH M_Line_one_of (hr.mono (by decide)) (takes_of rfl rfl rfl rfl) ((aq (i:=0))) (aj ((gM (v:= .ref dH) rfl T.g_DIGITS rfl (fun _=> .raw _))) aA)))) aN)))) (aF (cV (bV (SE.o ((lH M_Line_is_next (hr.mono (by decide)) (takes_of rfl rfl rfl rfl) ((aq (i:=0))) (aj ((aU (aj ((dw rfl T.k_NO_LABEL)) aA))) aA))))) (aF (fV (lH M_Line_one_of (hr.mono (by decide)) (takes_of rfl rfl rfl rfl) ((aq (i:=0))) (aj ((aU (aj ((dw rfl T.k_NO_LABEL)) aA))) aA))) (aK (bA ((aU (aj ((aq (i:=1))) (aj ((aY)) aA))))))) bH) (aK (bA ((aU (aj ((aq (i:=1))) (aj ((dI M_Line_next_word (hr.mono (by decide)) (takes_of rfl rfl rfl rfl) ((aq (i:=0))))) aA))))))))
def pU:MS:=(fun ls=>bnd ((fun ls=>bnd ((ao (au 0) (fun _=>ret [])) ls) (aQ 1 (BW))) ls) fun d=>ret (.nx (ls.set 1 (.va d))))
def jg:MS:=(eY (fun ls=>bnd (m2 v7 (fun ls=>bnd ((au 0) ls) fun d=>bM aD "one_of" 2 (aX) d ((ao (fun ls=>bnd ((ao (fun _=>ret (.str "home")) (ao (fun _=>ret (.str ">")) (fun _=>ret []))) ls) bK) (fun _=>ret [])) ls)) (fun _=>ret (.str "home")) ls) jR) (aR (fun ls=>bnd ((fun ls=>bnd ((au 0) ls) fun d=>bM aD "need_over" 1 (bR) d (ret [])) ls) fun _=>ret (.nx ls)) (cW (fun ls=>bnd ((ao (au 1) (ao (fun _=>ret (.str "home")) (fun _=>ret []))) ls) bK))) fJ)
def u5:MS:=(cW (fun ls=>bnd ((ao (au 1) (ao (fun ls=>bnd ((ao (au 0) (fun _=>ret [])) ls) (aQ 1 (rG))) (fun _=>ret []))) ls) bK))
def CN:MS:=(aR pU (aR jg u5))
def Ao:List D→M D:=dG 2 CN
theorem TX (T:Tells w K mg base) (F:DefF K mg "row_in" (top 59)) (C_key_in:Cal PP w K mg base (TB K) "key_in" 5 1 (BW)) (M_Line_one_of:CalM PP w K mg base (TB K) aD "one_of" 4 2 (aX)) (M_Line_need_over:CalM PP w K mg base (TB K) aD "need_over" 4 1 (bR)) (C_groups_in:Cal PP w K mg base (TB K) "groups_in" 7 1 (rG)):Cal PP w K mg base (TB K) "row_in" 8 1 Ao:=by
 have S:FnScope ["line","head"] ["line"] (defScope (top 59)):=⟨rfl,rfl,rfl,by decide +kernel,rfl,by decide +kernel,by decide +kernel⟩
 exact F.cal (N:=["line","head"]) (ps:=["line"]) S (by decide) (by intro _ _ _ _ _ _ us hl;exact match us,hl with | [_],_=>rfl) fun f cdv A outer s H E hr=>(aF (dF (i:=1) S.nd ((aM C_key_in (hr.mono (by decide)) rfl (takes_of rfl rfl rfl rfl) (aj ((aq (i:=0))) aA)))) (aF (cV (eE (yO hr.room) (SE.o ((lH M_Line_one_of (hr.mono (by decide)) (takes_of rfl rfl rfl rfl) ((aq (i:=0))) (aj ((aU (aj ((dw rfl T.k_HOME)) (aj ((dw rfl T.k_TO)) aA)))) aA)))) (SE.o ((dw rfl T.k_HOME)))) (aF (fV (dI M_Line_need_over (hr.mono (by decide)) (takes_of rfl rfl rfl rfl) ((aq (i:=0))))) (aK (bA ((aU (aj ((aq (i:=1))) (aj ((dw rfl T.k_HOME)) aA))))))) bH) (aK (bA ((aU (aj ((aq (i:=1))) (aj ((aM C_groups_in (hr.mono (by decide)) rfl (takes_of rfl rfl rfl rfl) (aj ((aq (i:=0))) aA))) aA))))))))
def vH:MS:=(fun ls=>bnd ((fun ls=>bnd ((au 0) ls) fun d=>bM aD "one_of" 2 (aX) d ((ao (fun ls=>bnd ((ao (fun _=>ret (.str "labels")) (fun _=>ret [])) ls) bK) (fun _=>ret [])) ls)) ls) fun _=>ret (.nx ls))
def jE:MS:=(fun ls=>bnd ((fun ls=>bnd ((ao (fun ls=>bnd ((au 0) ls) fun d=>bM aD "next_word" 1 (cR) d (ret [])) (BK (fun ls=>bnd ((au 0) ls) fun d=>bM aD "next_labels" 1 (dB) d (ret [])) (fun _=>ret []))) ls) bK) ls) fun d=>ret (.nx (ls.set 1 (.va d))))
def vB:MS:=(fun ls=>bnd ((fun ls=>bnd ((au 0) ls) fun d=>bM aD "need_over" 1 (bR) d (ret [])) ls) fun _=>ret (.nx ls))
def uN:MS:=(aR vH (aR jE (aR vB (cW (au 1)))))
def oH:List D→M D:=dG 2 uN
theorem KD (T:Tells w K mg base) (F:DefF K mg "labels_in" (top 60)) (M_Line_one_of:CalM PP w K mg base (TB K) aD "one_of" 4 2 (aX)) (M_Line_next_labels:CalM PP w K mg base (TB K) aD "next_labels" 5 1 (dB)) (M_Line_next_word:CalM PP w K mg base (TB K) aD "next_word" 4 1 (cR)) (M_Line_need_over:CalM PP w K mg base (TB K) aD "need_over" 4 1 (bR)):Cal PP w K mg base (TB K) "labels_in" 6 1 oH:=by
 have S:FnScope ["line","found"] ["line"] (defScope (top 60)):=⟨rfl,rfl,rfl,by decide +kernel,rfl,by decide +kernel,by decide +kernel⟩
 exact F.cal (N:=["line","found"]) (ps:=["line"]) S (by decide) (by intro _ _ _ _ _ _ us hl;exact match us,hl with | [_],_=>rfl) fun f cdv A outer s H E hr=>(aF (fV (lH M_Line_one_of (hr.mono (by decide)) (takes_of rfl rfl rfl rfl) ((aq (i:=0))) (aj ((aU (aj ((dw rfl T.k_LABELS)) aA))) aA))) (aF (dF (i:=1) S.nd ((aU (aj ((dI M_Line_next_word (hr.mono (by decide)) (takes_of rfl rfl rfl rfl) ((aq (i:=0))))) (yE (SE.o ((dI M_Line_next_labels (hr.mono (by decide)) (takes_of rfl rfl rfl rfl) ((aq (i:=0)))))) aA))))) (aF (fV (dI M_Line_need_over (hr.mono (by decide)) (takes_of rfl rfl rfl rfl) ((aq (i:=0))))) (aK (bA ((aq (i:=1))))))))
def qw:MS:=(eY (d7 (fun ls=>bnd ((fun ls=>bnd ((ao (au 0) (ao (fun _=>ret (.raw (.ty "str"))) (fun _=>ret []))) ls) (kJ isT)) ls) cQ)) (fun ls=>bnd ((ao (fun _=>ret .non) (ao (fun _=>ret .non) (fun _=>ret []))) ls) fun ds=>bnd (Uv bF ["line","word"] ds) UW) fJ)
def qY:MS:=(fun ls=>bnd ((mL (G9 (au 0) (fun _=>ret (.str "\n")))) ls) fun d=>ret (.nx (ls.set 1 (.va d))))
def lZ:MS:=(fun ls=>bnd ((fun ls=>bnd ((fun ls=>bnd ((ao (fun ls=>bnd ((ao (m2 dJ (au 1) (fun _=>ret (.int 0))) (ao (fun _=>ret (.int 0)) (fun _=>ret []))) ls) (Bm aD 3 (dh))) (fun _=>ret [])) ls) (aQ 1 (oH))) ls) fun d=>bnd ((fun ls=>bnd ((fun ls=>bnd ((fun _=>ret []) ls) eX) ls) fun d=>bnd ((fun ls=>bnd ((fun ls=>bnd ((fun _=>ret []) ls) eX) ls) fun d=>bnd ((fun _=>ret []) ls) fun xs=>ret (.ow d::xs)) ls) fun xs=>ret (.ow d::xs)) ls) fun xs=>ret (.va d::xs)) ls) fun xs=>if xs.length=3 then ret (.nx (Tv ls [2,3,4] xs)) else stk)
def mJ:MS:=(fun ls=>bnd ((fun ls=>bnd ((ao (au 6) (ao (m2 iT (au 5) (fun _=>ret (.int 1))) (fun _=>ret []))) ls) (Bm aD 3 (dh))) ls) fun d=>ret (.nx (ls.set 7 (.va d))))
def je:MS:=(fun ls=>bnd ((fun ls=>bnd ((au 7) ls) fun d=>bM aD "one_of" 2 (aX) d ((ao (Jf (fun ls=>bnd (m2 v7 (iU 3) (mL (fun ls=>bnd ((fun _=>ret []) ls) eX)) ls) jR) (fun ls=>bnd ((ao (fun _=>ret (.str "road")) (fun _=>ret [])) ls) bK) (Jf (fun ls=>bnd (m2 Jx (iU 4) (mL (fun ls=>bnd ((fun _=>ret []) ls) eX)) ls) jR) (fun ls=>bnd ((ao (fun _=>ret (.str "row")) (fun _=>ret [])) ls) bK) (fun ls=>bnd ((ao (fun _=>ret (.str "road")) (ao (fun _=>ret (.str "row")) (fun _=>ret []))) ls) bK))) (fun _=>ret [])) ls)) ls) fun d=>ret (.nx (ls.set 8 (.va d))))
def dX:MS:=(eY (fun ls=>bnd (m2 v7 (au 8) (fun _=>ret (.str "road")) ls) jR) (aR (jC 3 (fun ls=>bnd ((ao (fun ls=>bnd ((ao (fun ls=>bnd ((au 7) ls) fun d=>bM aD "one_of" 2 (aX) d ((ao (fun _=>ret (.raw (.ref dH))) (fun _=>ret [])) ls)) (fun _=>ret [])) ls) gR) (ao (fun ls=>bnd ((ao (fun ls=>bnd ((au 7) ls) fun d=>bM aD "one_of" 2 (aX) d ((ao (fun _=>ret (.raw (.ref dH))) (fun _=>ret [])) ls)) (fun _=>ret [])) ls) gR) (fun _=>ret []))) ls) bK)) (fun ls=>bnd ((fun ls=>bnd ((au 7) ls) fun d=>bM aD "need_over" 1 (bR) d (ret [])) ls) fun _=>ret (.nx ls))) (jC 4 (fun ls=>bnd ((ao (au 7) (fun _=>ret [])) ls) (aQ 1 (Ao)))))
def bO:MS:=(aR mJ (aR je dX))
def lA:MS:=(fun ls=>bnd ((wH (Pr (au 1) (fun ls=>bnd ((fun _=>ret (.int 1)) ls) intD) (fun _=>ret none))) ls) fun ds=>fH (jY 2 (cG (gQ 5) (cG (gQ 6) lY))) bO ds ls)
def lO:MS:=(eY (fun ls=>bnd (m2 v7 (iU 3) (mL (fun ls=>bnd ((fun _=>ret []) ls) eX)) ls) jR) (fun ls=>bnd ((ao (fun _=>ret (.int 1)) (ao (fun _=>ret (.int 0)) (fun _=>ret []))) ls) fun ds=>bnd (Uv bF ["line","word"] ds) UW) fJ)
def qU:MS:=(cW (fun ls=>bnd ((ao (fun ls=>bnd ((ao (fun ls=>bnd ((ao (iU 3) (fun _=>ret [])) ls) jP) (ao (au 2) (ao (fun ls=>bnd ((ao (iU 4) (fun _=>ret [])) ls) jP) (fun _=>ret [])))) ls) bK) (fun _=>ret [])) ls) (aQ 1 (bY))))
def fB:MS:=(aR qw (aR qY (aR lZ (aR lA (aR lO qU)))))
def mO:List D→M D:=Ww (dG 9 fB)
theorem MP (T:Tells w K mg base) (F:DefF K mg "read_net" (top 61)) (C_labels_in:Cal PP w K mg base (TB K) "labels_in" 6 1 (oH)) (N_Line:MkM PP w K mg base (TB K) "Line" aD 1 3 (dh)) (M_Line_one_of:CalM PP w K mg base (TB K) aD "one_of" 4 2 (aX)) (M_Line_need_over:CalM PP w K mg base (TB K) aD "need_over" 4 1 (bR)) (C_row_in:Cal PP w K mg base (TB K) "row_in" 8 1 (Ao)) (C_need_net:Cal PP w K mg base (TB K) "need_net" 8 1 (bY)):Cal PP w K mg base (TB K) "read_net" 9 1 mO:=by
 have S:FnScope ["text","lines","labels","roads","rows","number","words","line","word"] ["text"] (defScope (top 61)):=⟨rfl,rfl,rfl,by decide +kernel,rfl,by decide +kernel,by decide +kernel⟩
 exact Cal.res (F.cal (N:=["text","lines","labels","roads","rows","number","words","line","word"]) (ps:=["text"]) S (by decide) (by intro _ _ _ _ _ _ us hl;exact match us,hl with | [_],_=>rfl) fun f cdv A outer s H E hr=>(aF (cV (dD (bV (SE.o ((aV (j9 T.is) rfl T.g_isinstance PyProof.Rows.Boot.«isinstance» (aH (SE.o ((aq (i:=0)))) (aH (SE.o ((nZ (v:= .ty "str") rfl T.g_str PyProof.Rows.Boot.«str» rfl))) aN))))))) (aK (SX.ss (T.mU.rz rfl hr.room (takes_of rfl rfl rfl rfl) rfl rfl (aj ((jQ)) (aj ((jQ)) aA))))) bH) (aF (dF (i:=1) S.nd ((SL.se (Gp (SE.o ((aq (i:=0)))) (SE.o ((aY))))))) (aF (Vk (i:=2) (j:=3) (l:=4) rfl S.nd (acv ((aM C_labels_in (hr.mono (by decide)) rfl (takes_of rfl rfl rfl rfl) (aj ((Ly N_Line (hr.mono (by decide)) rfl (takes_of rfl rfl rfl rfl) (aj ((bL (SE.o ((aq (i:=1)))) (SE.o ((aG))))) (aj ((aG)) aA)))) aA))) (aac (cD aA) (aac (cD aA) YW)))) (aF (oY (passes_of rfl) rfl (Ib rfl T.g_enumerate ((zj (SE.o ((aq (i:=1)))) (ou ((aG))) nW))) (qQ rfl (cJ (bB (i:=5) S.nd) (cJ (bB (i:=6) S.nd) j7))) (aF (dF (i:=7) S.nd ((Ly N_Line (hr.mono (by decide)) rfl (takes_of rfl rfl rfl rfl) (aj ((aq (i:=6))) (aj ((cH jj (SE.o ((aq (i:=5)))) (SE.o ((aG))))) aA))))) (aF (dF (i:=8) S.nd ((lH M_Line_one_of (hr.mono (by decide)) (takes_of rfl rfl rfl rfl) ((aq (i:=7))) (aj ((Iu (eE (yO hr.room) (iw (i:=3)) (SE.o ((SL.se (cD aA))))) (aU (aj ((dw rfl T.k_ROAD)) aA)) (Iu (eE (PB hr.room) (iw (i:=4)) (SE.o ((SL.se (cD aA))))) (aU (aj ((dw rfl T.k_ROW)) aA)) (aU (aj ((dw rfl T.k_ROAD)) (aj ((dw rfl T.k_ROW)) aA)))))) aA)))) (aK (cV (eE (yO hr.room) (SE.o ((aq (i:=8)))) (SE.o ((dw rfl T.k_ROAD)))) (aF (cO (i:=3) ((aU (aj ((bT wO rfl T.g_int PyProof.Rows.Boot.«int» (aH (SE.o ((lH M_Line_one_of (hr.mono (by decide)) (takes_of rfl rfl rfl rfl) ((aq (i:=7))) (aj ((gM (v:= .ref dH) rfl T.g_DIGITS rfl (fun _=> .raw _))) aA)))) aN))) (aj ((bT wO rfl T.g_int PyProof.Rows.Boot.«int» (aH (SE.o ((lH M_Line_one_of (hr.mono (by decide)) (takes_of rfl rfl rfl rfl) ((aq (i:=7))) (aj ((gM (v:= .ref dH) rfl T.g_DIGITS rfl (fun _=> .raw _))) aA)))) aN))) aA))))) (aK (fV (dI M_Line_need_over (hr.mono (by decide)) (takes_of rfl rfl rfl rfl) ((aq (i:=7))))))) (aK (cO (i:=4) ((aM C_row_in (hr.mono (by decide)) rfl (takes_of rfl rfl rfl rfl) (aj ((aq (i:=7))) aA)))))))))) (aF (cV (eE (yO hr.room) (iw (i:=3)) (SE.o ((SL.se (cD aA))))) (aK (SX.ss (T.mU.rz rfl hr.room (takes_of rfl rfl rfl rfl) rfl rfl (aj ((aG)) (aj ((aG)) aA))))) bH) (aK (bA ((aM C_need_net (hr.mono (by decide)) rfl (takes_of rfl rfl rfl rfl) (aj ((aU (aj ((bT jG rfl T.g_tuple PyProof.Rows.Boot.«tuple» (aH (iw (i:=3)) aN))) (aj ((aq (i:=2))) (aj ((bT jG rfl T.g_tuple PyProof.Rows.Boot.«tuple» (aH (iw (i:=4)) aN))) aA))))) aA)))))))))))
def vA:MS:=(fun ls=>bnd ((fun ls=>bnd ((au 0) ls) fun d=>bM aD "next_choice" 1 (bZ) d (ret [])) ls) fun d=>ret (.nx (ls.set 1 (.va d))))
def vJ:MS:=(fun ls=>bnd ((fun ls=>bnd ((au 0) ls) fun d=>bM aD "need_over" 1 (bR) d (ret [])) ls) fun _=>ret (.nx ls))
def u9:MS:=(aR vA (aR vJ (cW (au 1))))
def rF:List D→M D:=dG 2 u9
theorem LQ (T:Tells w K mg base) (F:DefF K mg "parcel_in" (top 62)) (M_Line_next_choice:CalM PP w K mg base (TB K) aD "next_choice" 6 1 (bZ)) (M_Line_need_over:CalM PP w K mg base (TB K) aD "need_over" 4 1 (bR)):Cal PP w K mg base (TB K) "parcel_in" 7 1 rF:=by
 have S:FnScope ["line","found"] ["line"] (defScope (top 62)):=⟨rfl,rfl,rfl,by decide +kernel,rfl,by decide +kernel,by decide +kernel⟩
 exact F.cal (N:=["line","found"]) (ps:=["line"]) S (by decide) (by intro _ _ _ _ _ _ us hl;exact match us,hl with | [_],_=>rfl) fun f cdv A outer s H E hr=>(aF (dF (i:=1) S.nd ((dI M_Line_next_choice (hr.mono (by decide)) (takes_of rfl rfl rfl rfl) ((aq (i:=0)))))) (aF (fV (dI M_Line_need_over (hr.mono (by decide)) (takes_of rfl rfl rfl rfl) ((aq (i:=0))))) (aK (bA ((aq (i:=1)))))))
def iG:MS:=(fun ls=>bnd ((fun ls=>bnd ((ao (au 0) (fun _=>ret [])) ls) (aQ 1 (bY))) ls) fun _=>ret (.nx ls))
def iD:MS:=(eY (d7 (fun ls=>bnd ((fun ls=>bnd ((ao (au 1) (ao (fun _=>ret (.raw (.ty "str"))) (fun _=>ret []))) ls) (kJ isT)) ls) cQ)) (fun ls=>bnd ((ao (fun _=>ret .non) (ao (fun _=>ret .non) (fun _=>ret []))) ls) fun ds=>bnd (Uv bF ["line","word"] ds) UW) fJ)
def iz:MS:=(fun ls=>bnd ((fun ls=>bnd ((ao (fun ls=>bnd ((ao (au 1) (ao (fun _=>ret (.int 0)) (fun _=>ret []))) ls) (Bm aD 3 (dh))) (fun _=>ret [])) ls) (aQ 1 (rF))) ls) fun d=>ret (.nx (ls.set 2 (.va d))))
def rM:MS:=(fun ls=>bnd ((fun ls=>bnd ((ao (au 0) (ao (fun ls=>bnd ((fun _=>ret []) ls) bK) (ao (au 2) (fun _=>ret [])))) ls) (aQ 3 (jL))) ls) fun _=>ret (.nx ls))
def bG:MS:=(aR iG (aR iD (aR iz (aR rM (cW (au 2))))))
def fG:List D→M D:=Ww (dG 3 bG)
theorem Hr (T:Tells w K mg base) (F:DefF K mg "read_parcel" (top 63)) (C_need_net:Cal PP w K mg base (TB K) "need_net" 8 1 (bY)) (C_parcel_in:Cal PP w K mg base (TB K) "parcel_in" 7 1 (rF)) (N_Line:MkM PP w K mg base (TB K) "Line" aD 1 3 (dh)) (C_need_all:Cal PP w K mg base (TB K) "need_all" 9 3 (jL)):Cal PP w K mg base (TB K) "read_parcel" 10 2 fG:=by
 have S:FnScope ["net","text","parcel"] ["net","text"] (defScope (top 63)):=⟨rfl,rfl,rfl,by decide +kernel,rfl,by decide +kernel,by decide +kernel⟩
 exact Cal.res (F.cal (N:=["net","text","parcel"]) (ps:=["net","text"]) S (by decide) (by intro _ _ _ _ _ _ us hl;exact match us,hl with | [_,_],_=>rfl) fun f cdv A outer s H E hr=>(aF (fV (aM C_need_net (hr.mono (by decide)) rfl (takes_of rfl rfl rfl rfl) (aj ((aq (i:=0))) aA))) (aF (cV (dD (bV (SE.o ((aV (j9 T.is) rfl T.g_isinstance PyProof.Rows.Boot.«isinstance» (aH (SE.o ((aq (i:=1)))) (aH (SE.o ((nZ (v:= .ty "str") rfl T.g_str PyProof.Rows.Boot.«str» rfl))) aN))))))) (aK (SX.ss (T.mU.rz rfl hr.room (takes_of rfl rfl rfl rfl) rfl rfl (aj ((jQ)) (aj ((jQ)) aA))))) bH) (aF (dF (i:=2) S.nd ((aM C_parcel_in (hr.mono (by decide)) rfl (takes_of rfl rfl rfl rfl) (aj ((Ly N_Line (hr.mono (by decide)) rfl (takes_of rfl rfl rfl rfl) (aj ((aq (i:=1))) (aj ((aG)) aA)))) aA)))) (aF (fV (aM C_need_all (hr.mono (by decide)) rfl (takes_of rfl rfl rfl rfl) (aj ((aq (i:=0))) (aj ((aU aA)) (aj ((aq (i:=2))) aA))))) (aK (bA ((aq (i:=2))))))))))
theorem Lh (T:Tells w K mg base) (F:DefF K mg "_law_mixed" (top 65)):Cal PP w K mg base (TB K) "_law_mixed" 1 2 Dq:=by
 have S:FnScope ["cell","n","blend"] ["cell","n"] (defScope (top 65)):=⟨rfl,rfl,rfl,by decide +kernel,rfl,by decide +kernel,by decide +kernel⟩
 exact F.cal (N:=["cell","n","blend"]) (ps:=["cell","n"]) S (by decide) (by intro _ _ _ _ _ _ us hl;exact match us,hl with | [_,_],_=>rfl) fun f cdv A outer s H E hr=>(aF (dF (i:=2) S.nd ((cH jj (SE.o ((cH jj (SE.o ((cH JR (SE.o ((bT wO rfl T.g_int PyProof.Rows.Boot.«int» (aH (SE.o ((cH yV (SE.o ((cH yV (SE.o ((aq (i:=0)))) (SE.o ((cH jj (SE.o ((aG))) (SE.o ((cH yV (SE.o ((aG))) (SE.o ((aq (i:=1))))))))))))) (SE.o ((aG)))))) aN)))) (SE.o ((aG)))))) (SE.o ((cH yV (SE.o ((cH yV (SE.o ((aG))) (SE.o ((aq (i:=1))))))) (SE.o ((aq (i:=1)))))))))) (SE.o ((cH yV (SE.o ((aG))) (SE.o ((aq (i:=1)))))))))) (aK (bA ((cH abL (SE.o ((cH JR (SE.o ((bT wO rfl T.g_int PyProof.Rows.Boot.«int» (aH (SE.o ((cH yV (SE.o ((aq (i:=2)))) (SE.o ((aG)))))) aN)))) (SE.o ((aG)))))) (SE.o ((aG))))))))
theorem Jj (T:Tells w K mg base) (F:DefF K mg "_law_folded" (top 66)):Cal PP w K mg base (TB K) "_law_folded" 2 1 pO:=by
 have S:FnScope ["script","found","n","cell"] ["script"] (defScope (top 66)):=⟨rfl,rfl,rfl,by decide +kernel,rfl,by decide +kernel,by decide +kernel⟩
 exact F.cal (N:=["script","found","n","cell"]) (ps:=["script"]) S (by decide) (by intro _ _ _ _ _ _ us hl;exact match us,hl with | [_],_=>rfl) fun f cdv A outer s H E hr=>(aF (T7 (i:=1) rfl S.nd rfl (own:=[("n",2)]) (is:=[2]) (gY rfl T.g_range (aj ((aG)) aA)) (uF ["script","found","n","cell"] (defScope (top 66)) ⟨rfl,by decide +kernel,by decide +kernel,by decide +kernel,by decide +kernel⟩) (fun s H C cl fp=>(bB (i:=2) S.nd)) (fun s H C cl fp=>fQ) (fun s H C cl fp=>(cH jj (SE.o ((aG))) (SE.o ((aq (i:=2))))))) (aF (oY (passes_of rfl) rfl (Zj rfl T.g_enumerate ((aq (i:=0)))) (qQ rfl (cJ (bB (i:=2) S.nd) (cJ (bB (i:=3) S.nd) j7))) (aK (Ot (i:=1) ((cH JR (SE.o ((bT wO rfl T.g_int PyProof.Rows.Boot.«int» (aH (SE.o ((cH jj (SE.o ((cH yV (SE.o ((bL (iw (i:=1)) (SE.o ((cH JR (SE.o ((bT wO rfl T.g_int PyProof.Rows.Boot.«int» (aH (SE.o ((aq (i:=2)))) aN)))) (SE.o ((aG))))))))) (SE.o ((aG)))))) (SE.o ((aq (i:=3))))))) aN)))) (SE.o ((aG))))) ((cH JR (SE.o ((bT wO rfl T.g_int PyProof.Rows.Boot.«int» (aH (SE.o ((aq (i:=2)))) aN)))) (SE.o ((aG)))))))) (aF (oY (passes_of rfl) rfl (JZ rfl T.g_range (aj ((aG)) (aj ((aG)) aA))) (bB (i:=2) S.nd) (aK (Ot (i:=1) ((cH JR (SE.o ((bT wO rfl T.g_int PyProof.Rows.Boot.«int» (aH (SE.o ((cH jj (SE.o ((bL (iw (i:=1)) (SE.o ((aq (i:=2))))))) (SE.o ((cH yV (SE.o ((bL (iw (i:=1)) (SE.o ((cH DQ (SE.o ((aq (i:=2)))) (SE.o ((aG))))))))) (SE.o ((aG))))))))) aN)))) (SE.o ((aG))))) ((aq (i:=2)))))) (aK (Uz (i:=1))))))
theorem ZF (T:Tells w K mg base) (F:DefF K mg "_law_draw" (top 67)) (C:Cal PP w K mg base (TB K) "_law_mixed" 1 2 Gv):Cal PP w K mg base (TB K) "_law_draw" 2 2 dU:=by
 have S:FnScope ["m","limit","n","lot","here","cell"] ["m","limit"] (defScope (top 67)):=⟨rfl,rfl,rfl,by decide +kernel,rfl,by decide +kernel,by decide +kernel⟩
 refine CalS.cal (F.acq (N:=["m","limit","n","lot","here","cell"]) (ps:=["m","limit"]) S (fun vs H Q E h=>h.1) (by intro _ _ _ _ _ _ us hl;exact match us,hl with | [_,_],_=>rfl) fun f cdv A outer s H vs Q E hr h=> ?_)
 have hu:(A.deeper (envOfC "_law_draw" (defScope (top 67)) s.heap.objs.size f cdv)).units+64<cLine:=by have:=hr.room.un;omega
 have hu1:(A.deeper (envOfC "_law_draw" (defScope (top 67)) s.heap.objs.size f cdv)).units+1<cLine:=by have:=hr.room.un;omega
 refine ⟨_,pss_cons (ps_set (i:=2) S.nd rfl (Or.inl rfl) (pe_dget hu1 (pv 0) pe_str (fun _ _=>rfl)))
  (pss_cons (ps_dput hu1 (pv 0) pe_str (pe_op op_add (pv 2) pe_int) rfl)
  (pss_cons (ps_if (pt_cmpR (op_neD hu) (pe_dget hu1 (pv 0) pe_str (fun _ _=>rfl)) (pe_lst pa_nil) (nomark _))
   (pss_cons (ps_set (i:=3) S.nd rfl (Or.inl rfl) (pe_dget hu1 (pv 0) pe_str (fun _ _=>rfl)))
   (pss_cons (ps_set (i:=4) S.nd rfl (Or.inl rfl) (pe_op op_mod (pe_callTy call_int1 rfl T.g_int PyProof.Rows.Boot.«int» (pa_cons (pv 2) pa_nil)) (pe_callB call_len rfl T.g_len PyProof.Rows.Boot.«len» (pa_cons (pv 3) pa_nil))))
   (pss_cons (ps_set (i:=5) S.nd rfl (Or.inl rfl) (pe_ix ix_list (pv 3) (pv 4) (fun _ _=>rfl)))
   (pss_one (ps_if (pt_cmp (pc_gt (pv 5) pe_int)) (pss_cons (ps_asg (pe_op op_fdiv (pv 5) (pv 1)) (pg_sub (pv 3) (pv 4) set_list)) (pss_one (ps_ret (pe_op op_mod (pe_callTy call_int1 rfl T.g_int PyProof.Rows.Boot.«int» (pa_cons (pv 5) pa_nil)) (pv 1))))) pss_nil)))))
   pss_nil)
  (pss_cons (ps_set (i:=3) S.nd rfl (Or.inl rfl) (pe_dget hu1 (pv 0) pe_str (fun _ _=>rfl)))
  (pss_one (ps_ret (pe_op op_mod (pe_callTy call_int1 rfl T.g_int PyProof.Rows.Boot.«int» (pa_cons (K8 C hr rfl (takes_of rfl rfl rfl rfl) (pa_cons (K8 C hr rfl (takes_of rfl rfl rfl rfl) (pa_cons
    (pe_op op_add (pe_ix ix_list (pv 3) (pe_op op_mod (pe_callTy call_int1 rfl T.g_int PyProof.Rows.Boot.«int» (pa_cons (pv 2) pa_nil)) pe_int) (fun _ _=>rfl)) (pe_op op_mul pe_int (pe_op op_fdiv (pv 2) pe_int))) (pa_cons (pv 2) pa_nil))) (pa_cons (pe_op op_add (pv 2) pe_int) pa_nil))) pa_nil)) (pv 1))))))),?_⟩
 exact Uj (K:=K) (T:=TB K) (Wx:=EW E) rfl h
theorem VG (T:Tells w K mg base) (F:DefF K mg "_law_begun" (top 68)) (C:Cal PP w K mg base (TB K) "_law_folded" 2 1 pO):CalS PP w K mg base "_law_begun" 3 (spB K (TB K)):=by
 have S:FnScope ["script","m","cell"] ["script"] (defScope (top 68)):=⟨rfl,rfl,rfl,by decide +kernel,rfl,by decide +kernel,by decide +kernel⟩
 refine F.acq (N:=["script","m","cell"]) (ps:=["script"]) S (fun vs H Q E h=>by obtain ⟨a,ns,rfl,_⟩:=h;rfl) (by intro _ _ _ _ _ _ us hl;exact match us,hl with | [_],_=>rfl) fun f cdv A outer s H vs Q E hr h=> ?_
 have hu1:(A.deeper (envOfC "_law_begun" (defScope (top 68)) s.heap.objs.size f cdv)).units+1<cLine:=by have:=hr.room.un;omega
 have W:SL (G0 (TB K) w) (cxOf (L2.CX PP w) PP w K mg base ["script","m","cell"] "_law_begun" (defScope (top 68)) f cdv A outer s H E) (EW E) (abC ((defBody (top 68)).getD 1 (.Pass ⟨0,0,0,0⟩))) mGr:=(mG (own:=[("cell",2)]) (is:=[2]) rfl S.nd (abV ((aq (i:=0)))) (uF ["script","m","cell"] (defScope (top 68)) ⟨rfl,by decide +kernel,by decide +kernel,by decide +kernel,by decide +kernel⟩) (fun s H C cl fp=>(bB (i:=2) S.nd)) (fun s H C cl fp=>fQ) (fun s H C cl fp=>(Iu (eE acP (SE.o ((aq (i:=2)))) (SE.o ((cH adn (SE.o ((aG))) (SE.o ((aG))))))) (aq (i:=2)) (aG))))
 obtain ⟨tl,pl,hl⟩:=W.ex
 refine ⟨_,pss_cons (ps_set (i:=1) S.nd rfl (Or.inl rfl) (pe_disp (pps_cons pe_str (K8 C hr rfl (takes_of rfl rfl rfl rfl) (pa_cons (pv 0) pa_nil)) (pps_cons pe_str (pe_lst pa_nil) (pps_cons pe_str pe_int pps_nil))) rfl rfl (by simp) (by decide)))
  (pss_cons (ps_dput hu1 (pv 1) pe_str pl rfl) (pss_one (ps_ret (pv 1)))),?_⟩
 exact Qg (K:=K) (Wx:=EW E) rfl hl h
def xr:MS:=(cW (m2 v7 (fun ls=>bnd ((ao (au 0) (fun _=>ret [])) ls) DW) (fun ls=>bnd ((ao (au 1) (fun _=>ret [])) ls) DW)))
def CZ:MS:=xr
def iZ:List D→M D:=dG 2 CZ
theorem Mr (T:Tells w K mg base) (F:DefF K mg "_law_like" (top 69)):Cal PP w K mg base (TB K) "_law_like" 1 2 iZ:=by
 have S:FnScope ["told","due"] ["told","due"] (defScope (top 69)):=⟨rfl,rfl,rfl,by decide +kernel,rfl,by decide +kernel,by decide +kernel⟩
 exact F.cal (N:=["told","due"]) (ps:=["told","due"]) S (by decide) (by intro _ _ _ _ _ _ us hl;exact match us,hl with | [_,_],_=>rfl) fun f cdv A outer s H E hr=>(aK (bA ((mK (yO hr.room) (SE.o ((aV (V9 hr T.sm) rfl T.g_repr PyProof.Rows.Boot.«repr» (aH (SE.o ((aq (i:=0)))) aN)))) (SE.o ((aV (V9 hr T.sm) rfl T.g_repr PyProof.Rows.Boot.«repr» (aH (SE.o ((aq (i:=1)))) aN))))))))
def oK:MS:=(fun ls=>bnd ((m2 dJ (mL (fun ls=>bnd ((ao (fun ls=>bnd ((ao (fun _=>ret (.str "a")) (ao (fun _=>ret (.str "b")) (fun _=>ret []))) ls) bK) (ao (fun ls=>bnd ((ao (fun _=>ret (.str "b")) (ao (fun _=>ret (.str "a")) (fun _=>ret []))) ls) bK) (ao (fun ls=>bnd ((ao (fun _=>ret (.str "row")) (ao (fun _=>ret (.str "home")) (fun _=>ret []))) ls) bK) (ao (fun ls=>bnd ((ao (fun _=>ret (.str "lost")) (ao (fun _=>ret (.str "x")) (fun _=>ret []))) ls) bK) (fun _=>ret []))))) ls) eX)) (fun ls=>bnd ((ao (au 0) (ao (fun _=>ret (.int 4)) (fun _=>ret []))) ls) (aQ 2 (dU)))) ls) fun d=>nxO ((jY 2 (cG (gQ 1) (cG (gQ 2) lY))) d ls))
def jc:MS:=(cW (Pr (fun ls=>bnd ((ao (au 1) (ao (au 2) (fun _=>ret []))) ls) bK) (fun _=>ret none) (fun ls=>bnd ((m2 iT (fun _=>ret (.int 1)) (fun ls=>bnd ((ao (au 0) (ao (fun _=>ret (.int 2)) (fun _=>ret []))) ls) (aQ 2 (dU)))) ls) intD)))
def rW:MS:=(aR oK jc)
def fY:List D→M D:=dG 3 rW
theorem Bo (T:Tells w K mg base) (F:DefF K mg "_law_label_menu" (top 70)) (C__law_draw:Cal PP w K mg base (TB K) "_law_draw" 2 2 (dU)):Cal PP w K mg base (TB K) "_law_label_menu" 3 1 fY:=by
 have S:FnScope ["m","first","second"] ["m"] (defScope (top 70)):=⟨rfl,rfl,rfl,by decide +kernel,rfl,by decide +kernel,by decide +kernel⟩
 exact F.cal (N:=["m","first","second"]) (ps:=["m"]) S (by decide) (by intro _ _ _ _ _ _ us hl;exact match us,hl with | [_],_=>rfl) fun f cdv A outer s H E hr=>(aF (K9 ((bL (SE.o ((SL.se (cD (aj ((aU (aj ((aY)) (aj ((aY)) aA)))) (aj ((aU (aj ((aY)) (aj ((aY)) aA)))) (aj ((aU (aj ((aY)) (aj ((aY)) aA)))) (aj ((aU (aj ((aY)) (aj ((aY)) aA)))) aA)))))))) (SE.o ((aM C__law_draw (hr.mono (by decide)) rfl (takes_of rfl rfl rfl rfl) (aj ((aq (i:=0))) (aj ((aG)) aA))))))) (qQ rfl (cJ (bB (i:=1) S.nd) (cJ (bB (i:=2) S.nd) j7)))) (aK (bA ((zj (SE.o ((aU (aj ((aq (i:=1))) (aj ((aq (i:=2))) aA))))) nW (ou ((cH jj (SE.o ((aG))) (SE.o ((aM C__law_draw (hr.mono (by decide)) rfl (takes_of rfl rfl rfl rfl) (aj ((aq (i:=0))) (aj ((aG)) aA)))))))))))))
def mZ:MS:=(fun ls=>bnd ((qK [6] (fun ls=>bnd ((ao (fun ls=>bnd ((ao (au 1) (fun _=>ret [])) ls) gj) (fun _=>ret [])) ls) oJ) (gQ 6) (fun ls=>bnd (m2 v7 (m2 dJ (m2 dJ (au 1) (au 6)) (fun _=>ret (.int 0))) (m2 dJ (m2 dJ (au 1) (au 3)) (fun _=>ret (.int 1))) ls) jR) (au 6)) ls) fun ds=>ret (.nx (ls.set 5 (.va (.lst ds)))))
def nu:MS:=(eY (fun ls=>bnd (m2 v7 (au 5) (mL (fun ls=>bnd ((fun _=>ret []) ls) eX)) ls) jR) (cW (fun _=>ret .non)) fJ)
def m7:MS:=(fun ls=>bnd ((m2 dJ (au 5) (fun ls=>bnd ((ao (au 0) (ao (fun ls=>bnd ((ao (au 5) (fun _=>ret [])) ls) gj) (fun _=>ret []))) ls) (aQ 2 (dU)))) ls) fun d=>ret (.nx (ls.set 6 (.va d))))
def nH:MS:=(fun ls=>bnd ((m2 dJ (mL (fun ls=>bnd ((ao (fun _=>ret (.int 1)) (ao (fun _=>ret (.int 0)) (ao (fun _=>ret (.int 1)) (ao (au 4) (fun _=>ret []))))) ls) eX)) (fun ls=>bnd ((ao (au 0) (ao (fun _=>ret (.int 4)) (fun _=>ret []))) ls) (aQ 2 (dU)))) ls) fun d=>ret (.nx (ls.set 7 (.va d))))
def ni:MS:=(cW (fun ls=>bnd ((ao (au 6) (ao (fun ls=>bnd ((ao (mL (qK [8] (fun ls=>bnd ((ao (au 7) (fun _=>ret [])) ls) oJ) (gQ 8) (fun _=>ret true) (m2 dJ (au 2) (fun ls=>bnd ((ao (au 0) (ao (fun ls=>bnd ((ao (au 2) (fun _=>ret [])) ls) gj) (fun _=>ret []))) ls) (aQ 2 (dU)))))) (fun _=>ret [])) ls) jP) (fun _=>ret []))) ls) bK))
def zu:MS:=(aR mZ (aR nu (aR m7 (aR nH ni))))
def gG:List D→M D:=dG 9 zu
theorem Je (T:Tells w K mg base) (F:DefF K mg "_law_choice" (top 71)) (C__law_draw:Cal PP w K mg base (TB K) "_law_draw" 2 2 (dU)):Cal PP w K mg base (TB K) "_law_choice" 3 5 gG:=by
 have S:FnScope ["m","roads","labels","road","most","outs","out","size_so","k"] ["m","roads","labels","road","most"] (defScope (top 71)):=⟨rfl,rfl,rfl,by decide +kernel,rfl,by decide +kernel,by decide +kernel⟩
 exact F.cal (N:=["m","roads","labels","road","most","outs","out","size_so","k"]) (ps:=["m","roads","labels","road","most"]) S (by decide) (by intro _ _ _ _ _ _ us hl;exact match us,hl with | [_,_,_,_,_],_=>rfl) fun f cdv A outer s H E hr=>(aF (Xn (i:=5) rfl S.nd rfl (own:=[("out",6)]) (is:=[6]) (gY rfl T.g_range (aj ((aV jk rfl T.g_len PyProof.Rows.Boot.«len» (aH (SE.o ((aq (i:=1)))) aN))) aA)) (uF ["m","roads","labels","road","most","outs","out","size_so","k"] (defScope (top 71)) ⟨rfl,by decide +kernel,by decide +kernel,by decide +kernel,by decide +kernel⟩) (fun s H C cl fp=>(bB (i:=6) S.nd)) (fun s H C cl fp=>(KZ (eE (yO hr.room) (SE.o ((bL (SE.o ((bL (SE.o ((aq (i:=1)))) (SE.o ((aq (i:=6))))))) (SE.o ((aG)))))) (SE.o ((bL (SE.o ((bL (SE.o ((aq (i:=1)))) (SE.o ((aq (i:=3))))))) (SE.o ((aG))))))))) (fun s H C cl fp=>(aq (i:=6)))) (aF (cV (eE (yO hr.room) (SE.o ((aq (i:=5)))) (SE.o ((SL.se (cD aA))))) (aK (bA ((jQ)))) bH) (aF (dF (i:=6) S.nd ((bL (SE.o ((aq (i:=5)))) (SE.o ((aM C__law_draw (hr.mono (by decide)) rfl (takes_of rfl rfl rfl rfl) (aj ((aq (i:=0))) (aj ((aV jk rfl T.g_len PyProof.Rows.Boot.«len» (aH (SE.o ((aq (i:=5)))) aN))) aA)))))))) (aF (dF (i:=7) S.nd ((bL (SE.o ((SL.se (cD (aj ((aG)) (aj ((aG)) (aj ((aG)) (aj ((aq (i:=4))) aA)))))))) (SE.o ((aM C__law_draw (hr.mono (by decide)) rfl (takes_of rfl rfl rfl rfl) (aj ((aq (i:=0))) (aj ((aG)) aA)))))))) (aK (bA ((aU (aj ((aq (i:=6))) (aj ((bT jG rfl T.g_tuple PyProof.Rows.Boot.«tuple» (aH (SE.o ((SL.se (mG (own:=[("k",8)]) (is:=[8]) rfl S.nd (gY rfl T.g_range (aj ((aq (i:=7))) aA)) (uF ["m","roads","labels","road","most","outs","out","size_so","k"] (defScope (top 71)) ⟨rfl,by decide +kernel,by decide +kernel,by decide +kernel,by decide +kernel⟩) (fun s H C cl fp=>(bB (i:=8) S.nd)) (fun s H C cl fp=>fQ) (fun s H C cl fp=>(bL (SE.o ((aq (i:=2)))) (SE.o ((aM C__law_draw (hr.mono (by decide)) rfl takes0 (aj ((aq (i:=0))) (aj ((aV jk rfl T.g_len PyProof.Rows.Boot.«len» (aH (SE.o ((aq (i:=2)))) aN))) aA))))))))))) aN))) aA))))))))))
def tW:MS:=(eY (J5 (fun ls=>bnd (m2 v7 (fun ls=>bnd ((ao (au 0) (ao (fun _=>ret (.int 6)) (fun _=>ret []))) ls) (aQ 2 (dU))) (fun _=>ret (.int 0)) ls) jR) (fun ls=>bnd (m2 isD (fun ls=>bnd ((ao (au 0) (ao (au 1) (ao (au 2) (ao (au 3) (ao (fun _=>ret (.int 0)) (fun _=>ret [])))))) ls) (aQ 5 (gG))) (fun _=>ret .non) ls) jR)) (cW (fun _=>ret (.str "home"))) fJ)
def mV:MS:=(fun ls=>bnd ((fun ls=>bnd ((fun _=>ret []) ls) eX) ls) fun ds=>ret (.nx (ls.set 5 (.ow ds))))
def zJ:MS:=(fun ls=>bnd ((fun ls=>bnd ((fun _=>ret []) ls) eX) ls) fun ds=>ret (.nx (ls.set 7 (.ow ds))))
def qF:MS:=(fun ls=>bnd ((fun ls=>bnd ((ao (au 0) (ao (au 1) (ao (au 2) (ao (au 3) (ao (au 4) (fun _=>ret [])))))) ls) (aQ 5 (gG))) ls) fun d=>ret (.nx (ls.set 9 (.va d))))
def jK:MS:=(eY (fun ls=>bnd (m2 Ai (au 9) (iU 7) ls) jR) (jC 7 (au 9)) fJ)
def vY:MS:=(aR qF jK)
def qC:MS:=(fun ls=>bnd ((fun ls=>bnd ((ao (m2 iT (fun _=>ret (.int 1)) (fun ls=>bnd ((ao (au 0) (ao (fun _=>ret (.int 2)) (fun _=>ret []))) ls) (aQ 2 (dU)))) (fun _=>ret [])) ls) oJ) ls) fun ds=>fH (gQ 8) vY ds ls)
def jN:MS:=(jC 5 (fun ls=>bnd ((ao (iU 7) (fun _=>ret [])) ls) jP))
def o7:MS:=(aR zJ (aR qC jN))
def nJ:MS:=(fun ls=>bnd ((fun ls=>bnd ((ao (m2 iT (fun _=>ret (.int 1)) (fun ls=>bnd ((ao (au 0) (ao (fun _=>ret (.int 2)) (fun _=>ret []))) ls) (aQ 2 (dU)))) (fun _=>ret [])) ls) oJ) ls) fun ds=>fH (gQ 6) o7 ds ls)
def jd:MS:=(cW (fun ls=>bnd ((ao (iU 5) (fun _=>ret [])) ls) jP))
def zB:MS:=(aR tW (aR mV (aR nJ jd)))
def j8:List D→M D:=dG 10 zB
theorem Iz (T:Tells w K mg base) (F:DefF K mg "_law_groups" (top 72)) (C__law_draw:Cal PP w K mg base (TB K) "_law_draw" 2 2 (dU)) (C__law_choice:Cal PP w K mg base (TB K) "_law_choice" 3 5 (gG)):Cal PP w K mg base (TB K) "_law_groups" 4 5 j8:=by
 have S:FnScope ["m","roads","labels","road","most","groups","k","group","j","choice"] ["m","roads","labels","road","most"] (defScope (top 72)):=⟨rfl,rfl,rfl,by decide +kernel,rfl,by decide +kernel,by decide +kernel⟩
 exact F.cal (N:=["m","roads","labels","road","most","groups","k","group","j","choice"]) (ps:=["m","roads","labels","road","most"]) S (by decide) (by intro _ _ _ _ _ _ us hl;exact match us,hl with | [_,_,_,_,_],_=>rfl) fun f cdv A outer s H E hr=>(aF (cV (STw.st (oW (eE (yO hr.room) (SE.o ((aM C__law_draw (hr.mono (by decide)) rfl (takes_of rfl rfl rfl rfl) (aj ((aq (i:=0))) (aj ((aG)) aA))))) (SE.o ((aG)))) (jD (eE acy (SE.o ((aM C__law_choice (hr.mono (by decide)) rfl (takes_of rfl rfl rfl rfl) (aj ((aq (i:=0))) (aj ((aq (i:=1))) (aj ((aq (i:=2))) (aj ((aq (i:=3))) (aj ((aG)) aA)))))))) (SE.o ((jQ))))))) (aK (bA ((aY)))) bH) (aF (rO (i:=5) S.nd (cD aA)) (aF (oY (passes_of rfl) rfl (gY rfl T.g_range (aj ((cH jj (SE.o ((aG))) (SE.o ((aM C__law_draw (hr.mono (by decide)) rfl (takes_of rfl rfl rfl rfl) (aj ((aq (i:=0))) (aj ((aG)) aA))))))) aA)) (bB (i:=6) S.nd) (aF (rO (i:=7) S.nd (cD aA)) (aF (oY (passes_of rfl) rfl (gY rfl T.g_range (aj ((cH jj (SE.o ((aG))) (SE.o ((aM C__law_draw (hr.mono (by decide)) rfl (takes_of rfl rfl rfl rfl) (aj ((aq (i:=0))) (aj ((aG)) aA))))))) aA)) (bB (i:=8) S.nd) (aF (dF (i:=9) S.nd ((aM C__law_choice (hr.mono (by decide)) rfl (takes_of rfl rfl rfl rfl) (aj ((aq (i:=0))) (aj ((aq (i:=1))) (aj ((aq (i:=2))) (aj ((aq (i:=3))) (aj ((aq (i:=4))) aA)))))))) (aK (cV (eE (Pk hr.room) (SE.o ((aq (i:=9)))) (iw (i:=7))) (aK (cO (i:=7) ((aq (i:=9))))) bH)))) (aK (cO (i:=5) ((bT jG rfl T.g_tuple PyProof.Rows.Boot.«tuple» (aH (iw (i:=7)) aN)))))))) (aK (bA ((bT jG rfl T.g_tuple PyProof.Rows.Boot.«tuple» (aH (iw (i:=5)) aN))))))))
def yU:MS:=(fun ls=>bnd ((fun ls=>bnd ((ao (m2 iT (fun _=>ret (.int 1)) (fun ls=>bnd ((ao (au 0) (ao (fun _=>ret (.int 3)) (fun _=>ret []))) ls) (aQ 2 (dU)))) (ao (fun ls=>bnd ((ao (au 0) (fun _=>ret [])) ls) (aQ 1 (fY))) (fun _=>ret []))) ls) bK) ls) fun d=>nxO ((jY 2 (cG (gQ 5) (cG (gQ 6) lY))) d ls))
def rZ:MS:=(fun ls=>bnd ((fun ls=>bnd ((ao (mL (qK [8] (fun ls=>bnd ((ao (m2 iT (fun _=>ret (.int 2)) (fun ls=>bnd ((ao (au 0) (ao (fun _=>ret (.int 4)) (fun _=>ret []))) ls) (aQ 2 (dU)))) (fun _=>ret [])) ls) oJ) (gQ 8) (fun _=>ret true) (fun ls=>bnd ((ao (fun ls=>bnd ((ao (au 0) (ao (au 5) (fun _=>ret []))) ls) (aQ 2 (dU))) (ao (fun ls=>bnd ((ao (au 0) (ao (au 5) (fun _=>ret []))) ls) (aQ 2 (dU))) (fun _=>ret []))) ls) bK))) (fun _=>ret [])) ls) jP) ls) fun d=>ret (.nx (ls.set 2 (.va d))))
def yZ:MS:=(fun ls=>bnd ((fun ls=>bnd ((fun _=>ret []) ls) eX) ls) fun ds=>ret (.nx (ls.set 3 (.ow ds))))
def vq:MS:=(eY (fun ls=>bnd (m2 gtD (fun ls=>bnd ((ao (au 0) (ao (fun _=>ret (.int 7)) (fun _=>ret []))) ls) (aQ 2 (dU))) (fun _=>ret (.int 0)) ls) jR) (jC 3 (fun ls=>bnd ((ao (fun ls=>bnd ((ao (au 4) (ao (au 7) (fun _=>ret []))) ls) bK) (ao (fun ls=>bnd ((ao (au 0) (ao (au 2) (ao (au 6) (ao (au 4) (ao (au 1) (fun _=>ret [])))))) ls) (aQ 5 (j8))) (fun _=>ret []))) ls) bK)) fJ)
def uO:MS:=vq
def vL:MS:=(fun ls=>bnd ((lB (mL (fun ls=>bnd ((ao (m2 iT (au 6) (fun ls=>bnd ((ao (fun _=>ret (.str "")) (fun _=>ret [])) ls) bK)) (fun _=>ret [])) ls) Fg))) ls) fun ds=>fH (gQ 7) uO ds ls)
def Bq:MS:=vL
def zp:MS:=(fun ls=>bnd ((fun ls=>bnd ((ao (fun ls=>bnd ((ao (au 2) (fun _=>ret [])) ls) gj) (fun _=>ret [])) ls) oJ) ls) fun ds=>fH (gQ 4) Bq ds ls)
def sY:MS:=(cW (fun ls=>bnd ((ao (au 2) (ao (au 6) (ao (fun ls=>bnd ((ao (iU 3) (fun _=>ret [])) ls) jP) (fun _=>ret [])))) ls) bK))
def Hu:MS:=(aR yU (aR rZ (aR yZ (aR zp sY))))
def tQ:List D→M D:=dG 9 Hu
theorem QJ (T:Tells w K mg base) (F:DefF K mg "_law_net" (top 73)) (C__law_label_menu:Cal PP w K mg base (TB K) "_law_label_menu" 3 1 (fY)) (C__law_draw:Cal PP w K mg base (TB K) "_law_draw" 2 2 (dU)) (C__law_groups:Cal PP w K mg base (TB K) "_law_groups" 4 5 (j8)):Cal PP w K mg base (TB K) "_law_net" 5 2 tQ:=by
 have S:FnScope ["m","most","roads","rows","road","houses","labels","top","k"] ["m","most"] (defScope (top 73)):=⟨rfl,rfl,rfl,by decide +kernel,rfl,by decide +kernel,by decide +kernel⟩
 exact F.cal (N:=["m","most","roads","rows","road","houses","labels","top","k"]) (ps:=["m","most"]) S (by decide) (by intro _ _ _ _ _ _ us hl;exact match us,hl with | [_,_],_=>rfl) fun f cdv A outer s H E hr=>(aF (K9 ((aU (aj ((cH jj (SE.o ((aG))) (SE.o ((aM C__law_draw (hr.mono (by decide)) rfl (takes_of rfl rfl rfl rfl) (aj ((aq (i:=0))) (aj ((aG)) aA))))))) (aj ((aM C__law_label_menu (hr.mono (by decide)) rfl (takes_of rfl rfl rfl rfl) (aj ((aq (i:=0))) aA))) aA)))) (qQ rfl (cJ (bB (i:=5) S.nd) (cJ (bB (i:=6) S.nd) j7)))) (aF (dF (i:=2) S.nd ((bT jG rfl T.g_tuple PyProof.Rows.Boot.«tuple» (aH (SE.o ((SL.se (mG (own:=[("k",8)]) (is:=[8]) rfl S.nd (gY rfl T.g_range (aj ((cH jj (SE.o ((aG))) (SE.o ((aM C__law_draw (hr.mono (by decide)) rfl (takes_of rfl rfl rfl rfl) (aj ((aq (i:=0))) (aj ((aG)) aA))))))) aA)) (uF ["m","most","roads","rows","road","houses","labels","top","k"] (defScope (top 73)) ⟨rfl,by decide +kernel,by decide +kernel,by decide +kernel,by decide +kernel⟩) (fun s H C cl fp=>(bB (i:=8) S.nd)) (fun s H C cl fp=>fQ) (fun s H C cl fp=>(aU (aj ((aM C__law_draw (hr.mono (by decide)) rfl takes0 (aj ((aq (i:=0))) (aj ((aq (i:=5))) aA)))) (aj ((aM C__law_draw (hr.mono (by decide)) rfl takes0 (aj ((aq (i:=0))) (aj ((aq (i:=5))) aA)))) aA)))))))) aN)))) (aF (rO (i:=3) S.nd (cD aA)) (aF (oY (passes_of rfl) rfl (gY rfl T.g_range (aj ((aV jk rfl T.g_len PyProof.Rows.Boot.«len» (aH (SE.o ((aq (i:=2)))) aN))) aA)) (bB (i:=4) S.nd) (aK (oY (passes_of rfl) rfl (Yb ((SL.se (Vt (Wv hr T.sm) rfl T.g_sorted PyProof.Rows.Boot.«sorted» (aH (SE.o ((cH jj (SE.o ((aq (i:=6)))) (SE.o ((aU (aj ((aY)) aA))))))) aN))))) (bB (i:=7) S.nd) (aK (cV (eE aeh (SE.o ((aM C__law_draw (hr.mono (by decide)) rfl (takes_of rfl rfl rfl rfl) (aj ((aq (i:=0))) (aj ((aG)) aA))))) (SE.o ((aG)))) (aK (cO (i:=3) ((aU (aj ((aU (aj ((aq (i:=4))) (aj ((aq (i:=7))) aA)))) (aj ((aM C__law_groups (hr.mono (by decide)) rfl (takes_of rfl rfl rfl rfl) (aj ((aq (i:=0))) (aj ((aq (i:=2))) (aj ((aq (i:=6))) (aj ((aq (i:=4))) (aj ((aq (i:=1))) aA))))))) aA)))))) bH))))) (aK (bA ((aU (aj ((aq (i:=2))) (aj ((aq (i:=6))) (aj ((bT jG rfl T.g_tuple PyProof.Rows.Boot.«tuple» (aH (iw (i:=3)) aN))) aA)))))))))))
def uo:MS:=(fun ls=>bnd ((fun ls=>bnd ((ao (mL (qK [4] (fun ls=>bnd ((ao (fun ls=>bnd ((ao (au 0) (ao (m2 iT (au 2) (fun _=>ret (.int 1))) (fun _=>ret []))) ls) (aQ 2 (dU))) (fun _=>ret [])) ls) oJ) (gQ 4) (fun _=>ret true) (m2 dJ (m2 dJ (au 1) (fun _=>ret (.int 1))) (fun ls=>bnd ((ao (au 0) (ao (fun ls=>bnd ((ao (m2 dJ (au 1) (fun _=>ret (.int 1))) (fun _=>ret [])) ls) gj) (fun _=>ret []))) ls) (aQ 2 (dU)))))) (fun _=>ret [])) ls) jP) ls) fun d=>ret (.nx (ls.set 3 (.va d))))
def mW:MS:=(cW (fun ls=>bnd ((ao (fun ls=>bnd ((ao (au 0) (ao (fun ls=>bnd ((ao (m2 dJ (au 1) (fun _=>ret (.int 0))) (fun _=>ret [])) ls) gj) (fun _=>ret []))) ls) (aQ 2 (dU))) (ao (au 3) (fun _=>ret []))) ls) bK))
def zA:MS:=(aR uo mW)
def lC:List D→M D:=dG 5 zA
theorem IW (T:Tells w K mg base) (F:DefF K mg "_law_parcel" (top 74)) (C__law_draw:Cal PP w K mg base (TB K) "_law_draw" 2 2 (dU)):Cal PP w K mg base (TB K) "_law_parcel" 3 3 lC:=by
 have S:FnScope ["m","net","most","stack","k"] ["m","net","most"] (defScope (top 74)):=⟨rfl,rfl,rfl,by decide +kernel,rfl,by decide +kernel,by decide +kernel⟩
 exact F.cal (N:=["m","net","most","stack","k"]) (ps:=["m","net","most"]) S (by decide) (by intro _ _ _ _ _ _ us hl;exact match us,hl with | [_,_,_],_=>rfl) fun f cdv A outer s H E hr=>(aF (dF (i:=3) S.nd ((bT jG rfl T.g_tuple PyProof.Rows.Boot.«tuple» (aH (SE.o ((SL.se (mG (own:=[("k",4)]) (is:=[4]) rfl S.nd (gY rfl T.g_range (aj ((aM C__law_draw (hr.mono (by decide)) rfl (takes_of rfl rfl rfl rfl) (aj ((aq (i:=0))) (aj ((cH jj (SE.o ((aq (i:=2)))) (SE.o ((aG))))) aA)))) aA)) (uF ["m","net","most","stack","k"] (defScope (top 74)) ⟨rfl,by decide +kernel,by decide +kernel,by decide +kernel,by decide +kernel⟩) (fun s H C cl fp=>(bB (i:=4) S.nd)) (fun s H C cl fp=>fQ) (fun s H C cl fp=>(bL (SE.o ((bL (SE.o ((aq (i:=1)))) (SE.o ((aG)))))) (SE.o ((aM C__law_draw (hr.mono (by decide)) rfl takes0 (aj ((aq (i:=0))) (aj ((aV jk rfl T.g_len PyProof.Rows.Boot.«len» (aH (SE.o ((bL (SE.o ((aq (i:=1)))) (SE.o ((aG)))))) aN))) aA))))))))))) aN)))) (aK (bA ((aU (aj ((aM C__law_draw (hr.mono (by decide)) rfl (takes_of rfl rfl rfl rfl) (aj ((aq (i:=0))) (aj ((aV jk rfl T.g_len PyProof.Rows.Boot.«len» (aH (SE.o ((bL (SE.o ((aq (i:=1)))) (SE.o ((aG)))))) aN))) aA)))) (aj ((aq (i:=3))) aA)))))))
def qp (call:List D→M D):MS:=(fun ls=>bnd ((ao (mL (fun ls=>bnd ((fun _=>ret []) ls) eX)) (ao (fun _=>ret .non) (fun _=>ret []))) ls) (abd 3 4 ls))
def iK (call:List D→M D):MS:=(Ql (fun ls=>bnd ((mL (fun ls=>bnd ((ao (Jb 0 call (fun _=>ret [])) (fun _=>ret [])) ls) eX)) ls) fun d=>ret (.nx (ls.set 3 (.va d)))) Vx 1 4)
def wW (call:List D→M D):MS:=(eY (fun ls=>bnd (m2 isD (au 4) (fun _=>ret .non) ls) jR) (cW (au 3)) fJ)
def wC (call:List D→M D):MS:=(fun ls=>bnd ((fun ls=>bnd ((fun _=>ret []) ls) eX) ls) fun ds=>ret (.nx (ls.set 2 (.ow ds))))
def yh (call:List D→M D):MS:=(eY (fun ls=>bnd ((fun ls=>bnd ((ao (au 4) (ao (fun _=>ret (.raw (.ref cX))) (fun _=>ret []))) ls) (kJ isT)) ls) cQ) (jC 2 (fun ls=>bnd ((ao (fun _=>ret (.str "net")) (ao (fun ls=>bnd ((au 4) ls) (U4 atT "place")) (fun _=>ret []))) ls) bK)) fJ)
def xY (call:List D→M D):MS:=(eY (fun ls=>bnd ((fun ls=>bnd ((ao (au 4) (ao (fun _=>ret (.raw (.ref yr))) (fun _=>ret []))) ls) (kJ isT)) ls) cQ) (jC 2 (fun ls=>bnd ((ao (fun _=>ret (.str "number")) (ao (fun ls=>bnd ((au 4) ls) (U4 atT "value")) (fun _=>ret []))) ls) bK)) fJ)
def wQ (call:List D→M D):MS:=(eY (fun ls=>bnd ((fun ls=>bnd ((ao (au 4) (ao (fun _=>ret (.raw (.ref BZ))) (fun _=>ret []))) ls) (kJ isT)) ls) cQ) (jC 2 (fun ls=>bnd ((ao (fun _=>ret (.str "road")) (ao (fun ls=>bnd ((au 4) ls) (U4 atT "value")) (fun _=>ret []))) ls) bK)) fJ)
def wu (call:List D→M D):MS:=(eY (fun ls=>bnd ((fun ls=>bnd ((ao (au 4) (ao (fun _=>ret (.raw (.ref Cg))) (fun _=>ret []))) ls) (kJ isT)) ls) cQ) (jC 2 (fun ls=>bnd ((ao (fun _=>ret (.str "head")) (ao (fun ls=>bnd ((au 4) ls) (U4 atT "value")) (fun _=>ret []))) ls) bK)) fJ)
def yg (call:List D→M D):MS:=(eY (fun ls=>bnd ((fun ls=>bnd ((ao (au 4) (ao (fun _=>ret (.raw (.ref eV))) (fun _=>ret []))) ls) (kJ isT)) ls) cQ) (jC 2 (fun ls=>bnd ((ao (fun _=>ret (.str "failed")) (ao (fun ls=>bnd ((au 4) ls) (U4 atT "value")) (fun _=>ret []))) ls) bK)) fJ)
def xW (call:List D→M D):MS:=(eY (fun ls=>bnd ((fun ls=>bnd ((ao (au 4) (ao (fun _=>ret (.raw (.ref bW))) (fun _=>ret []))) ls) (kJ isT)) ls) cQ) (jC 2 (fun ls=>bnd ((ao (fun _=>ret (.str "parcel")) (ao (fun ls=>bnd ((au 4) ls) (U4 atT "value")) (fun _=>ret []))) ls) bK)) fJ)
def vX (call:List D→M D):MS:=(eY (fun ls=>bnd ((fun ls=>bnd ((ao (au 4) (ao (fun _=>ret (.raw (.ref vo))) (fun _=>ret []))) ls) (kJ isT)) ls) cQ) (jC 2 (fun ls=>bnd ((ao (fun _=>ret (.str "choices")) (ao (fun ls=>bnd ((au 4) ls) (U4 atT "place")) (fun _=>ret []))) ls) bK)) fJ)
def vI (call:List D→M D):MS:=(eY (fun ls=>bnd ((fun ls=>bnd ((ao (au 4) (ao (fun _=>ret (.raw (.ref bF))) (fun _=>ret []))) ls) (kJ isT)) ls) cQ) (jC 2 (fun ls=>bnd ((ao (fun _=>ret (.str "line")) (ao (fun ls=>bnd ((au 4) ls) (U4 atT "line")) (ao (fun ls=>bnd ((au 4) ls) (U4 atT "word")) (fun _=>ret [])))) ls) bK)) fJ)
def vW (call:List D→M D):MS:=(eY (fun ls=>bnd ((fun ls=>bnd ((ao (au 4) (ao (fun _=>ret (.raw (.ref uZ))) (fun _=>ret []))) ls) (kJ isT)) ls) cQ) (jC 2 (fun ls=>bnd ((ao (fun _=>ret (.str "great")) (ao (fun ls=>bnd ((au 4) ls) (U4 atT "most")) (fun _=>ret []))) ls) bK)) fJ)
def vU (call:List D→M D):MS:=(cW (Jf (fun ls=>bnd (m2 v7 (fun ls=>bnd ((ao (iU 2) (fun _=>ret [])) ls) gj) (fun _=>ret (.int 1)) ls) jR) (m2 dJ (iU 2) (fun _=>ret (.int 0))) (fun ls=>bnd ((ao (fun _=>ret (.str "odd")) (fun _=>ret [])) ls) bK)))
def bQ (call:List D→M D):MS:=(aR (qp call) (aR (iK call) (aR (wW call) (aR (wC call) (aR (yh call) (aR (xY call) (aR (wQ call) (aR (wu call) (aR (yg call) (aR (xW call) (aR (vX call) (aR (vI call) (aR (vW call) (vU call))))))))))))))
theorem O6 (T:Tells w K mg base) (F:DefF K mg "_law_said" (top 75)):CalL PP w K mg base (TB K) "_law_said" 0 ["call","e","found","told_so","error"] [] "call" (defScope (top 75)) bQ:=by
 have S:FnScope ["call","e","found","told_so","error"] ["call"] (defScope (top 75)):=⟨rfl,rfl,rfl,by decide +kernel,rfl,by decide +kernel,by decide +kernel⟩
 exact F.adf (N:=["call","e","found","told_so","error"]) (psg:=[]) (a:= "call") S (by intro _ _ _ _ _ _ us hl;exact match us,hl with | [_],_=>rfl) fun g q f c B0 call cdv A outer s H E hr act=>(aF (aaW (i:=3) (j:=4) rfl S.nd (aj ((SL.se (cD aA))) (aj ((jQ)) aA))) (aF (ab0 (i:=1) (j:=4) rfl rfl rfl S.nd (takes_of rfl rfl rfl rfl) (test2 rfl T.g_NetError rfl T.g_TooGreat) T.ct0 fun W pn xe tkT paT=>by exact (aa2 (i:=3) S.nd (SL.se (cD (aj ((act.c0 tkT)) aA))))) (aF (cV (eE acy (SE.o ((aq (i:=4)))) (SE.o ((jQ)))) (aK (bA ((aq (i:=3))))) bH) (aF (rO (i:=2) S.nd (cD aA)) (aF (cV (bV (SE.o ((aV (j9 T.is) rfl T.g_isinstance PyProof.Rows.Boot.«isinstance» (aH (SE.o ((aq (i:=4)))) (aH (SE.o ((gM (v:= .ref cX) rfl T.g_BadNet rfl (fun _=> .raw _)))) aN)))))) (aK (cO (i:=2) ((aU (aj ((aY)) (aj ((nO T.at_ (aq (i:=4)))) aA)))))) bH) (aF (cV (bV (SE.o ((aV (j9 T.is) rfl T.g_isinstance PyProof.Rows.Boot.«isinstance» (aH (SE.o ((aq (i:=4)))) (aH (SE.o ((gM (v:= .ref yr) rfl T.g_BadNumber rfl (fun _=> .raw _)))) aN)))))) (aK (cO (i:=2) ((aU (aj ((aY)) (aj ((nO T.at_ (aq (i:=4)))) aA)))))) bH) (aF (cV (bV (SE.o ((aV (j9 T.is) rfl T.g_isinstance PyProof.Rows.Boot.«isinstance» (aH (SE.o ((aq (i:=4)))) (aH (SE.o ((gM (v:= .ref BZ) rfl T.g_BadRoad rfl (fun _=> .raw _)))) aN)))))) (aK (cO (i:=2) ((aU (aj ((aY)) (aj ((nO T.at_ (aq (i:=4)))) aA)))))) bH) (aF (cV (bV (SE.o ((aV (j9 T.is) rfl T.g_isinstance PyProof.Rows.Boot.«isinstance» (aH (SE.o ((aq (i:=4)))) (aH (SE.o ((gM (v:= .ref Cg) rfl T.g_BadHead rfl (fun _=> .raw _)))) aN)))))) (aK (cO (i:=2) ((aU (aj ((aY)) (aj ((nO T.at_ (aq (i:=4)))) aA)))))) bH) (aF (cV (bV (SE.o ((aV (j9 T.is) rfl T.g_isinstance PyProof.Rows.Boot.«isinstance» (aH (SE.o ((aq (i:=4)))) (aH (SE.o ((gM (v:= .ref eV) rfl T.g_BadFailed rfl (fun _=> .raw _)))) aN)))))) (aK (cO (i:=2) ((aU (aj ((aY)) (aj ((nO T.at_ (aq (i:=4)))) aA)))))) bH) (aF (cV (bV (SE.o ((aV (j9 T.is) rfl T.g_isinstance PyProof.Rows.Boot.«isinstance» (aH (SE.o ((aq (i:=4)))) (aH (SE.o ((gM (v:= .ref bW) rfl T.g_BadParcel rfl (fun _=> .raw _)))) aN)))))) (aK (cO (i:=2) ((aU (aj ((aY)) (aj ((nO T.at_ (aq (i:=4)))) aA)))))) bH) (aF (cV (bV (SE.o ((aV (j9 T.is) rfl T.g_isinstance PyProof.Rows.Boot.«isinstance» (aH (SE.o ((aq (i:=4)))) (aH (SE.o ((gM (v:= .ref vo) rfl T.g_BadChoices rfl (fun _=> .raw _)))) aN)))))) (aK (cO (i:=2) ((aU (aj ((aY)) (aj ((nO T.at_ (aq (i:=4)))) aA)))))) bH) (aF (cV (bV (SE.o ((aV (j9 T.is) rfl T.g_isinstance PyProof.Rows.Boot.«isinstance» (aH (SE.o ((aq (i:=4)))) (aH (SE.o ((gM (v:= .ref bF) rfl T.g_BadLine rfl (fun _=> .raw _)))) aN)))))) (aK (cO (i:=2) ((aU (aj ((aY)) (aj ((nO T.at_ (aq (i:=4)))) (aj ((nO T.at_ (aq (i:=4)))) aA))))))) bH) (aF (cV (bV (SE.o ((aV (j9 T.is) rfl T.g_isinstance PyProof.Rows.Boot.«isinstance» (aH (SE.o ((aq (i:=4)))) (aH (SE.o ((gM (v:= .ref uZ) rfl T.g_TooGreat rfl (fun _=> .raw _)))) aN)))))) (aK (cO (i:=2) ((aU (aj ((aY)) (aj ((nO T.at_ (aq (i:=4)))) aA)))))) bH) (aK (bA ((Iu (eE (yO hr.room) (SE.o ((aV jk rfl T.g_len PyProof.Rows.Boot.«len» (aH (iw (i:=2)) aN)))) (SE.o ((aG)))) (bL (iw (i:=2)) (SE.o ((aG)))) (aU (aj ((aY)) aA)))))))))))))))))))
def jx:MS:=(eY (d7 (fun ls=>bnd ((fun ls=>bnd ((ao (au 1) (ao (fun _=>ret (.raw (.ty "str"))) (fun _=>ret []))) ls) (kJ isT)) ls) cQ)) (cW (fun ls=>bnd ((ao (fun _=>ret (.str "line")) (ao (fun _=>ret .non) (ao (fun _=>ret .non) (fun _=>ret [])))) ls) bK)) fJ)
def sU:MS:=(fun ls=>bnd ((mL (G9 (au 1) (fun _=>ret (.str " ")))) ls) fun d=>ret (.nx (ls.set 2 (.va d))))
def su:MS:=(eY (J5 (fun ls=>bnd (m2 Jx (fun ls=>bnd ((ao (m2 dJ (au 2) (fun _=>ret (.int 0))) (fun _=>ret [])) ls) gj) (fun _=>ret (.int 1)) ls) jR) (fun ls=>bnd (m2 Ai (m2 dJ (au 2) (fun _=>ret (.int 0))) (fun _=>ret (.str "0123456789")) ls) jR)) (cW (fun ls=>bnd ((ao (fun _=>ret (.str "line")) (ao (fun _=>ret (.int 0)) (ao (fun _=>ret (.int 0)) (fun _=>ret [])))) ls) bK)) fJ)
def vD:MS:=(eY (J5 (d7 (fun ls=>bnd (o9 Wb Wb (fun _=>ret (.int 1)) (fun ls=>bnd ((ao (m2 dJ (au 2) (au 3)) (fun _=>ret [])) ls) gj) (fun _=>ret (.int 8)) ls) jR)) (fun ls=>bnd (m2 Jx (mL (qK [6] (fun ls=>bnd ((m2 dJ (au 2) (au 3)) ls) Xy) (gQ 6) (d7 (fun ls=>bnd (o9 KJ KJ (fun _=>ret (.str "a")) (au 6) (fun _=>ret (.str "z")) ls) jR)) (au 6))) (mL (fun ls=>bnd ((fun _=>ret []) ls) eX)) ls) jR)) (cW (fun ls=>bnd ((ao (fun _=>ret (.str "line")) (ao (fun _=>ret (.int 0)) (ao (au 3) (fun _=>ret [])))) ls) bK)) fJ)
def lQ:MS:=vD
def sJ:MS:=(fun ls=>bnd ((fun ls=>bnd ((ao (fun _=>ret (.int 1)) (ao (fun ls=>bnd ((ao (au 2) (fun _=>ret [])) ls) gj) (fun _=>ret []))) ls) Jy) ls) fun ds=>fH (gQ 3) lQ ds ls)
def rY:MS:=(fun ls=>bnd ((fun ls=>bnd ((ao (fun ls=>bnd ((ao (m2 dJ (au 2) (fun _=>ret (.int 0))) (fun _=>ret [])) ls) gR) (ao (fun ls=>bnd ((ao (Pr (au 2) (fun ls=>bnd ((fun _=>ret (.int 1)) ls) intD) (fun _=>ret none)) (fun _=>ret [])) ls) jP) (fun _=>ret []))) ls) bK) ls) fun d=>ret (.nx (ls.set 4 (.va d))))
def sG:MS:=(eY (J5 (fun ls=>bnd (m2 ZS (m2 dJ (au 4) (fun _=>ret (.int 0))) (fun ls=>bnd ((ao (m2 dJ (au 0) (fun _=>ret (.int 0))) (fun _=>ret [])) ls) gj) ls) jR) (fun ls=>bnd (m2 Jx (mL (qK [5] (lB (m2 dJ (au 4) (fun _=>ret (.int 1)))) (gQ 5) (fun ls=>bnd (m2 Ai (au 5) (m2 dJ (au 0) (fun _=>ret (.int 1))) ls) jR) (au 5))) (mL (fun ls=>bnd ((fun _=>ret []) ls) eX)) ls) jR)) (cW (fun ls=>bnd ((ao (fun _=>ret (.str "parcel")) (ao (au 4) (fun _=>ret []))) ls) bK)) fJ)
def IK:MS:=(cW (mL (fun ls=>bnd ((ao (au 4) (fun _=>ret [])) ls) eX)))
def jU:MS:=(aR jx (aR sU (aR su (aR sJ (aR rY (aR sG IK))))))
def nD:List D→M D:=dG 7 jU
theorem QM (T:Tells w K mg base) (F:DefF K mg "_law_due" (top 76)):Cal PP w K mg base (TB K) "_law_due" 1 2 nD:=by
 have S:FnScope ["net","text","words","k","parcel","label","sign"] ["net","text"] (defScope (top 76)):=⟨rfl,rfl,rfl,by decide +kernel,rfl,by decide +kernel,by decide +kernel⟩
 exact F.cal (N:=["net","text","words","k","parcel","label","sign"]) (ps:=["net","text"]) S (by decide) (by intro _ _ _ _ _ _ us hl;exact match us,hl with | [_,_],_=>rfl) fun f cdv A outer s H E hr=>(aF (cV (dD (bV (SE.o ((aV (j9 T.is) rfl T.g_isinstance PyProof.Rows.Boot.«isinstance» (aH (SE.o ((aq (i:=1)))) (aH (SE.o ((nZ (v:= .ty "str") rfl T.g_str PyProof.Rows.Boot.«str» rfl))) aN))))))) (aK (bA ((aU (aj ((aY)) (aj ((jQ)) (aj ((jQ)) aA))))))) bH) (aF (dF (i:=2) S.nd ((SL.se (Gp (SE.o ((aq (i:=1)))) (SE.o ((aY))))))) (aF (cV (STw.st (oW (eE (PB hr.room) (SE.o ((aV jk rfl T.g_len PyProof.Rows.Boot.«len» (aH (SE.o ((bL (SE.o ((aq (i:=2)))) (SE.o ((aG)))))) aN)))) (SE.o ((aG)))) (jD (eE (Pk hr.room) (SE.o ((bL (SE.o ((aq (i:=2)))) (SE.o ((aG)))))) (SE.o ((aY))))))) (aK (bA ((aU (aj ((aY)) (aj ((aG)) (aj ((aG)) aA))))))) bH) (aF (oY (passes_of rfl) rfl (JZ rfl T.g_range (aj ((aG)) (aj ((aV jk rfl T.g_len PyProof.Rows.Boot.«len» (aH (SE.o ((aq (i:=2)))) aN))) aA))) (bB (i:=3) S.nd) (aK (cV (STw.st (oW (dD (Pj Ou Ou (SE.o ((aG))) (SE.o ((aV jk rfl T.g_len PyProof.Rows.Boot.«len» (aH (SE.o ((bL (SE.o ((aq (i:=2)))) (SE.o ((aq (i:=3))))))) aN)))) (SE.o ((aG))))) (jD (eE (PB hr.room) (SE.o ((SL.se (mG (own:=[("sign",6)]) (is:=[6]) rfl S.nd (Sd (SE.o ((bL (SE.o ((aq (i:=2)))) (SE.o ((aq (i:=3)))))))) (uF ["net","text","words","k","parcel","label","sign"] (defScope (top 76)) ⟨rfl,by decide +kernel,by decide +kernel,by decide +kernel,by decide +kernel⟩) (fun s H C cl fp=>(bB (i:=6) S.nd)) (fun s H C cl fp=>(KZ (dD (Pj Ve Ve (SE.o ((aY))) (SE.o ((aq (i:=6)))) (SE.o ((aY))))))) (fun s H C cl fp=>(aq (i:=6))))))) (SE.o ((SL.se (cD aA)))))))) (aK (bA ((aU (aj ((aY)) (aj ((aG)) (aj ((aq (i:=3))) aA))))))) bH))) (aF (dF (i:=4) S.nd ((aU (aj ((bT wO rfl T.g_int PyProof.Rows.Boot.«int» (aH (SE.o ((bL (SE.o ((aq (i:=2)))) (SE.o ((aG)))))) aN))) (aj ((bT jG rfl T.g_tuple PyProof.Rows.Boot.«tuple» (aH (SE.o ((zj (SE.o ((aq (i:=2)))) (ou ((aG))) nW))) aN))) aA))))) (aF (cV (STw.st (oW (eE acP (SE.o ((bL (SE.o ((aq (i:=4)))) (SE.o ((aG)))))) (SE.o ((aV jk rfl T.g_len PyProof.Rows.Boot.«len» (aH (SE.o ((bL (SE.o ((aq (i:=0)))) (SE.o ((aG)))))) aN))))) (jD (eE (PB hr.room) (SE.o ((SL.se (mG (own:=[("label",5)]) (is:=[5]) rfl S.nd (nU (SE.o ((bL (SE.o ((aq (i:=4)))) (SE.o ((aG))))))) (uF ["net","text","words","k","parcel","label","sign"] (defScope (top 76)) ⟨rfl,by decide +kernel,by decide +kernel,by decide +kernel,by decide +kernel⟩) (fun s H C cl fp=>(bB (i:=5) S.nd)) (fun s H C cl fp=>(KZ (eE (Pk hr.room) (SE.o ((aq (i:=5)))) (SE.o ((bL (SE.o ((aq (i:=0)))) (SE.o ((aG))))))))) (fun s H C cl fp=>(aq (i:=5))))))) (SE.o ((SL.se (cD aA)))))))) (aK (bA ((aU (aj ((aY)) (aj ((aq (i:=4))) aA)))))) bH) (aK (bA ((SL.se (cD (aj ((aq (i:=4))) aA))))))))))))
def CV:MS:=(fun ls=>bnd ((fun ls=>bnd ((ao (au 1) (ao (fun _=>ret (.int 2)) (fun _=>ret []))) ls) (aQ 2 (tQ))) ls) fun d=>ret (.nx (ls.set 3 (.va d))))
def DP:MS:=(fun ls=>bnd ((fun ls=>bnd ((ao (au 1) (ao (au 3) (ao (fun _=>ret (.int 4)) (fun _=>ret [])))) ls) (aQ 3 (lC))) ls) fun d=>ret (.nx (ls.set 10 (.va d))))
def wN:MS:=(fun ls=>bnd ((mL (fun ls=>bnd ((mL (fun ls=>bnd ((ao (fun ls=>bnd ((ao (m2 dJ (au 10) (fun _=>ret (.int 0))) (fun _=>ret [])) ls) TF) (fun _=>ret [])) ls) eX)) ls) fun x=>bnd ((mL (fun ls=>bnd ((ao (m2 dJ (au 10) (fun _=>ret (.int 1))) (fun _=>ret [])) ls) S8)) ls) fun y=>QT x y)) ls) fun d=>ret (.nx (ls.set 11 (.va d))))
def Dz:MS:=(fun ls=>bnd ((fun ls=>bnd ((ao (au 1) (ao (m2 iT (fun ls=>bnd ((ao (au 11) (fun _=>ret [])) ls) gj) (fun _=>ret (.int 1))) (fun _=>ret []))) ls) (aQ 2 (dU))) ls) fun d=>ret (.nx (ls.set 8 (.va d))))
def xZ:MS:=(fun ls=>bnd ((m2 dJ (mL (fun ls=>bnd ((ao (fun _=>ret (.str "")) (ao (fun _=>ret (.str "5")) (ao (fun _=>ret (.str "9")) (ao (fun _=>ret (.str "10")) (ao (fun _=>ret (.str "-")) (ao (fun _=>ret (.str "a")) (ao (fun _=>ret (.str "zz")) (ao (fun _=>ret (.str "A")) (ao (fun _=>ret (.str "any")) (ao (fun _=>ret (.str "abcdefghi")) (ao (fun _=>ret (.str "x y")) (ao (fun _=>ret (.str " ")) (ao (fun _=>ret (.str "b\n")) (fun _=>ret [])))))))))))))) ls) eX)) (fun ls=>bnd ((ao (au 1) (ao (fun _=>ret (.int 13)) (fun _=>ret []))) ls) (aQ 2 (dU)))) ls) fun d=>ret (.nx (ls.set 5 (.va d))))
def xO:MS:=(fun ls=>bnd ((mL (fun ls=>bnd ((mL (fun ls=>bnd ((Pr (au 11) (fun _=>ret none) (fun ls=>bnd ((au 8) ls) intD)) ls) fun x=>bnd ((mL (fun ls=>bnd ((ao (au 5) (fun _=>ret [])) ls) eX)) ls) fun y=>QT x y)) ls) fun x=>bnd ((Pr (au 11) (fun ls=>bnd ((m2 iT (au 8) (fun ls=>bnd ((ao (au 1) (ao (fun _=>ret (.int 2)) (fun _=>ret []))) ls) (aQ 2 (dU)))) ls) intD) (fun _=>ret none)) ls) fun y=>QT x y)) ls) fun d=>ret (.nx (ls.set 12 (.va d))))
def xg:MS:=(fun ls=>bnd ((fun ls=>bnd ((ao (rE (fun _=>ret (.str " ")) (au 11)) (ao (rE (fun _=>ret (.str " ")) (au 12)) (ao (rE (fun _=>ret (.str " ")) (Pr (au 11) (fun ls=>bnd ((fun _=>ret (.int 1)) ls) intD) (fun _=>ret none))) (fun _=>ret [])))) ls) eX) ls) fun ds=>ret (.nx (ls.set 13 (.ow ds))))
def wY:MS:=(jC 13 (m2 dJ (mL (fun ls=>bnd ((ao (fun _=>ret .non) (ao (fun _=>ret (.int 5)) (ao (fun _=>ret (.bl true)) (ao (fun ls=>bnd ((ao (fun _=>ret (.str "0")) (fun _=>ret [])) ls) bK) (ao (mL (fun ls=>bnd ((fun _=>ret []) ls) eX)) (ao (au 10) (fun _=>ret []))))))) ls) eX)) (fun ls=>bnd ((ao (au 1) (ao (fun _=>ret (.int 6)) (fun _=>ret []))) ls) (aQ 2 (dU)))))
def tO:bJ D:=(fun ls=>bnd ((ao (au 0) (ao (au 1) (fun _=>ret []))) ls) (aQ 2 (fG)))
def Dc:MS:=(eY (d7 (fun ls=>bnd ((fun ls=>bnd ((ao (fun ls=>bnd ((fun _=>ret []) ls) (jr 5 0 bQ (lamD 0 (gJ [(3,"net"),(14,"text")] ls) tO))) (ao (fun ls=>bnd ((ao (au 3) (ao (au 14) (fun _=>ret []))) ls) (aQ 2 (nD))) (fun _=>ret []))) ls) (aQ 2 (iZ))) ls) cQ)) (cW (fun _=>ret (.bl false))) fJ)
def FJ:MS:=Dc
def wG:MS:=(fun ls=>bnd ((lB (au 13)) ls) fun ds=>fH (gQ 14) FJ ds ls)
def FW:MS:=(aR DP (aR wN (aR Dz (aR xZ (aR xO (aR xg (aR wY (fun ls=>wG (frz 13 ls)))))))))
def v8:MS:=(fun ls=>bnd ((fun ls=>bnd ((ao (fun _=>ret (.int 4)) (fun _=>ret [])) ls) oJ) ls) fun ds=>fH (gQ 4) FW ds ls)
def DK:MS:=(fun ls=>bnd ((mL (fun ls=>bnd ((ao (fun _=>ret .non) (ao (fun _=>ret (.int 5)) (ao (fun ls=>bnd ((fun _=>ret []) ls) bK) (ao (fun ls=>bnd ((ao (fun _=>ret (.int 0)) (fun _=>ret [])) ls) bK) (ao (fun ls=>bnd ((ao (fun _=>ret (.int 0)) (ao (fun ls=>bnd ((fun _=>ret []) ls) bK) (fun _=>ret []))) ls) bK) (ao (fun ls=>bnd ((ao (fun _=>ret (.int 0)) (ao (mL (fun ls=>bnd ((ao (fun _=>ret (.str "a")) (fun _=>ret [])) ls) eX)) (fun _=>ret []))) ls) bK) (ao (fun ls=>bnd ((ao (fun _=>ret (.int 99)) (ao (fun ls=>bnd ((fun _=>ret []) ls) bK) (fun _=>ret []))) ls) bK) (ao (fun ls=>bnd ((ao (fun _=>ret (.bl true)) (ao (fun ls=>bnd ((fun _=>ret []) ls) bK) (fun _=>ret []))) ls) bK) (ao (fun ls=>bnd ((ao (fun _=>ret (.int 0)) (ao (fun ls=>bnd ((ao (fun _=>ret (.str "zz")) (fun _=>ret [])) ls) bK) (fun _=>ret []))) ls) bK) (ao (fun _=>ret (.str "0")) (ao (mL (fun ls=>bnd ((ao (fun _=>ret (.int 0)) (ao (fun ls=>bnd ((fun _=>ret []) ls) bK) (fun _=>ret []))) ls) eX)) (fun _=>ret [])))))))))))) ls) eX)) ls) fun d=>ret (.nx (ls.set 5 (.va d))))
def Du:MS:=(fun ls=>bnd ((m2 dJ (au 5) (fun ls=>bnd ((ao (au 1) (ao (fun _=>ret (.int 11)) (fun _=>ret []))) ls) (aQ 2 (dU)))) ls) fun d=>ret (.nx (ls.set 5 (.va d))))
def iW:MS:=(fun ls=>bnd ((Jf (fun ls=>bnd (m2 Jx (au 5) (fun ls=>bnd ((ao (fun _=>ret (.int 0)) (ao (fun ls=>bnd ((fun _=>ret []) ls) bK) (fun _=>ret []))) ls) bK) ls) jR) (fun ls=>bnd ((ao (fun _=>ret (.str "parcel")) (ao (au 5) (fun _=>ret []))) ls) bK) (mL (fun ls=>bnd ((ao (fun _=>ret (.str "0")) (fun _=>ret [])) ls) eX))) ls) fun d=>ret (.nx (ls.set 6 (.va d))))
def yJ:bJ D:=(fun ls=>bnd ((ao (au 0) (ao (au 1) (fun _=>ret []))) ls) (aQ 2 (fD)))
def jZ:MS:=(eY (d7 (fun ls=>bnd ((fun ls=>bnd ((ao (fun ls=>bnd ((fun _=>ret []) ls) (jr 5 0 bQ (lamD 0 (gJ [(3,"net"),(5,"odd")] ls) yJ))) (ao (au 6) (fun _=>ret []))) ls) (aQ 2 (iZ))) ls) cQ)) (cW (fun _=>ret (.bl false))) fJ)
def xR:MS:=(fun ls=>bnd ((m2 dJ (mL (fun ls=>bnd ((ao (fun _=>ret .non) (ao (fun ls=>bnd ((fun _=>ret []) ls) bK) (ao (fun _=>ret (.int 5)) (ao (Pr (au 3) (fun _=>ret none) (fun ls=>bnd ((fun _=>ret (.int 2)) ls) intD)) (ao (mL (fun ls=>bnd ((ao (au 3) (fun _=>ret [])) ls) S8)) (ao (fun ls=>bnd ((ao (fun ls=>bnd ((fun _=>ret []) ls) bK) (ao (m2 dJ (au 3) (fun _=>ret (.int 1))) (ao (m2 dJ (au 3) (fun _=>ret (.int 2))) (fun _=>ret [])))) ls) bK) (fun _=>ret []))))))) ls) eX)) (fun ls=>bnd ((ao (au 1) (ao (fun _=>ret (.int 6)) (fun _=>ret []))) ls) (aQ 2 (dU)))) ls) fun d=>ret (.nx (ls.set 7 (.va d))))
def Df:MS:=(fun ls=>bnd ((Jf (fun ls=>bnd (m2 v7 (au 7) (fun ls=>bnd ((ao (fun ls=>bnd ((fun _=>ret []) ls) bK) (ao (m2 dJ (au 3) (fun _=>ret (.int 1))) (ao (m2 dJ (au 3) (fun _=>ret (.int 2))) (fun _=>ret [])))) ls) bK) ls) jR) (fun ls=>bnd ((ao (fun _=>ret (.str "roads")) (fun _=>ret [])) ls) bK) (fun ls=>bnd ((fun _=>ret []) ls) bK)) ls) fun d=>ret (.nx (ls.set 8 (.va d))))
def uh:bJ D:=(fun ls=>bnd ((ao (au 1) (ao (fun _=>ret .non) (fun _=>ret []))) ls) (aQ 2 (fD)))
def uz:bJ D:=(fun ls=>bnd ((ao (au 0) (fun _=>ret [])) ls) (aQ 1 (jT)))
def Ea:MS:=(fun ls=>bnd ((fun ls=>bnd ((ao (fun ls=>bnd ((fun _=>ret []) ls) (jr 5 0 bQ (lamD 0 (gJ [(7,"bad")] ls) uz))) (ao (fun ls=>bnd ((fun _=>ret []) ls) (jr 5 0 bQ (vM 0 (gJ [(7,"bad")] ls) uh))) (fun _=>ret []))) ls) eX) ls) fun ds=>ret (.nx (ls.set 9 (.ow ds))))
def tX:bJ D:=(fun ls=>bnd ((ao (au 0) (ao (fun _=>ret .non) (fun _=>ret []))) ls) (aQ 2 (fG)))
def Dg:MS:=(jC 9 (fun ls=>bnd ((fun _=>ret []) ls) (jr 5 0 bQ (lamD 0 (gJ [(7,"bad")] ls) tX))))
def uP:MS:=(eY (J5 (d7 (fun ls=>bnd ((fun ls=>bnd ((ao (au 9) (ao (m2 abN (mL (fun ls=>bnd ((ao (fun ls=>bnd ((ao (fun _=>ret (.str "net")) (ao (au 8) (fun _=>ret []))) ls) bK) (fun _=>ret [])) ls) eX)) (fun _=>ret (.int 3))) (fun _=>ret []))) ls) (aQ 2 (iZ))) ls) cQ)) (fun ls=>bnd (m2 Jx (fun ls=>bnd ((ao (fun ls=>bnd ((ao (au 3) (fun _=>ret [])) ls) (aQ 1 (jT))) (fun _=>ret [])) ls) (aQ 1 (mO))) (au 3) ls) jR)) (cW (fun _=>ret (.bl false))) fJ)
def Fx:MS:=(aR CV (aR v8 (aR DK (aR Du (aR iW (aR jZ (aR xR (aR Df (aR Ea (aR Dg (fun ls=>uP (frz 9 ls))))))))))))
def MK:MS:=(fun ls=>bnd ((fun ls=>bnd ((ao (m2 iT (fun _=>ret (.int 3)) (fun ls=>bnd ((ao (fun _=>ret (.int 5)) (ao (fun ls=>bnd ((ao (au 0) (fun _=>ret [])) ls) gj) (fun _=>ret []))) ls) RK)) (fun _=>ret [])) ls) oJ) ls) fun ds=>fH (gQ 2) Fx ds ls)
def Im:MS:=(aR MK (cW (fun _=>ret (.bl true))))
theorem abu (T:Tells w K mg base) {fl:Addr}(efl:fl=He.fAd K ("law",none)) {fd:FuncData}(DL:FunD K "law" "law" (defArgs (top 77)) (defBody (top 77)) (defScope (top 77)) [] [] fl fd) (CB:CalS PP w K mg base "_law_begun" 3 (spB K (TB K))) (C__law_net:Cal PP w K mg base (TB K) "_law_net" 5 2 (tQ)) (C__law_parcel:Cal PP w K mg base (TB K) "_law_parcel" 3 3 (lC)) (C__law_draw:Cal PP w K mg base (TB K) "_law_draw" 2 2 (dU)) (C__law_like:Cal PP w K mg base (TB K) "_law_like" 1 2 (iZ)) (C__law_due:Cal PP w K mg base (TB K) "_law_due" 1 2 (nD)) (C__law_said:CalL PP w K mg base (TB K) "_law_said" 0 ["call","e","found","told_so","error"] [] "call" (defScope (top 75)) bQ) (C_read_parcel:Cal PP w K mg base (TB K) "read_parcel" 10 2 (fG)) (C_parcel_text:Cal PP w K mg base (TB K) "parcel_text" 10 2 (fD)) (C_net_text:Cal PP w K mg base (TB K) "net_text" 9 1 (jT)) (C_read_net:Cal PP w K mg base (TB K) "read_net" 9 1 (mO)):FnG PP w K mg base 13 fl fd ["script"] (Ra K (TB K) 13 Im):=by
 have S:FnScope ["script","m","turn","net","again","odd","due","bad","place","told_so","parcel","words","bent","some","text"] ["script"] (defScope (top 77)):=⟨rfl,rfl,rfl,by decide +kernel,rfl,by decide +kernel,by decide +kernel⟩
 refine ZK (N:=["script","m","turn","net","again","odd","due","bad","place","told_so","parcel","words","bent","some","text"]) (ps:=["script"]) efl DL S (fun vs H Q E h=>by obtain ⟨a,ns,rfl,_⟩:=h;rfl) fun cdv A outer s H vs Q E hcd hr h=> ?_
 have W:SSs (G0 (TB K) w) (cxOf (L2.CX PP w) PP w K mg base ["script","m","turn","net","again","odd","due","bad","place","told_so","parcel","words","bent","some","text"] "law" (defScope (top 77)) fl cdv A outer s H E) (EW E) (defBody (top 77)).tail Im:=(aF (oY (passes_of rfl) rfl (gY rfl T.g_range (aj ((cH jj (SE.o ((aG))) (SE.o ((aV (abk rfl) rfl T.g_min PyProof.Rows.Boot.«min» (aH (SE.o ((aG))) (aH (SE.o ((aV jk rfl T.g_len PyProof.Rows.Boot.«len» (aH (SE.o ((aq (i:=0)))) aN)))) aN))))))) aA)) (bB (i:=2) S.nd) (aF (dF (i:=3) S.nd ((aM C__law_net (hr.mono (by decide)) rfl (takes_of rfl rfl rfl rfl) (aj ((aq (i:=1))) (aj ((aG)) aA))))) (aF (oY (passes_of rfl) rfl (gY rfl T.g_range (aj ((aG)) aA)) (bB (i:=4) S.nd) (aF (dF (i:=10) S.nd ((aM C__law_parcel (hr.mono (by decide)) rfl (takes_of rfl rfl rfl rfl) (aj ((aq (i:=1))) (aj ((aq (i:=3))) (aj ((aG)) aA)))))) (aF (dF (i:=11) S.nd ((SL.se (Hi (SE.o ((SL.se (cD (aj ((bT V6 rfl T.g_str PyProof.Rows.Boot.«str» (aH (SE.o ((bL (SE.o ((aq (i:=10)))) (SE.o ((aG)))))) aN))) aA))))) (SE.o ((SL.se (JM Wr rfl T.g_list PyProof.Rows.Boot.«list» (aH (SE.o ((bL (SE.o ((aq (i:=10)))) (SE.o ((aG)))))) aN))))))))) (aF (dF (i:=8) S.nd ((aM C__law_draw (hr.mono (by decide)) rfl (takes_of rfl rfl rfl rfl) (aj ((aq (i:=1))) (aj ((cH jj (SE.o ((aV jk rfl T.g_len PyProof.Rows.Boot.«len» (aH (SE.o ((aq (i:=11)))) aN)))) (SE.o ((aG))))) aA))))) (aF (dF (i:=5) S.nd ((bL (SE.o ((SL.se (cD (aj ((aY)) (aj ((aY)) (aj ((aY)) (aj ((aY)) (aj ((aY)) (aj ((aY)) (aj ((aY)) (aj ((aY)) (aj ((aY)) (aj ((aY)) (aj ((aY)) (aj ((aY)) (aj ((aY)) aA))))))))))))))))) (SE.o ((aM C__law_draw (hr.mono (by decide)) rfl (takes_of rfl rfl rfl rfl) (aj ((aq (i:=1))) (aj ((aG)) aA)))))))) (aF (dF (i:=12) S.nd ((SL.se (Hi (SE.o ((SL.se (Hi (SE.o ((zj (SE.o ((aq (i:=11)))) nW (ou ((aq (i:=8))))))) (SE.o ((SL.se (cD (aj ((aq (i:=5))) aA))))))))) (SE.o ((zj (SE.o ((aq (i:=11)))) (ou ((cH jj (SE.o ((aq (i:=8)))) (SE.o ((aM C__law_draw (hr.mono (by decide)) rfl (takes_of rfl rfl rfl rfl) (aj ((aq (i:=1))) (aj ((aG)) aA)))))))) nW))))))) (aF (rO (i:=13) S.nd (cD (aj ((pQ (SE.o ((aY))) (SE.o ((aq (i:=11)))))) (aj ((pQ (SE.o ((aY))) (SE.o ((aq (i:=12)))))) (aj ((pQ (SE.o ((aY))) (SE.o ((zj (SE.o ((aq (i:=11)))) (ou ((aG))) nW))))) aA))))) (aF (cO (i:=13) ((bL (SE.o ((SL.se (cD (aj ((jQ)) (aj ((aG)) (aj ((xM)) (aj ((aU (aj ((aY)) aA))) (aj ((SL.se (cD aA))) (aj ((aq (i:=10))) aA)))))))))) (SE.o ((aM C__law_draw (hr.mono (by decide)) rfl (takes_of rfl rfl rfl rfl) (aj ((aq (i:=1))) (aj ((aG)) aA)))))))) (Sy 13 (aK (oY (passes_of rfl) rfl (Yb ((aq (i:=13)))) (bB (i:=14) S.nd) (aK (cV (dD (bV (SE.o ((aM C__law_like (hr.mono (by decide)) rfl (takes_of rfl rfl rfl rfl) (aj ((by exact uX (Ng:=["call","e","found","told_so","error"]) (psg:=[]) (mlam:=tO) (k:=10) (ps:=[]) (cap:=[(3,"net"),(14,"text")]) C__law_said (hr.mono (by decide)) (by decide) rfl (takes_of rfl rfl rfl rfl) (by exact fX (by kernel_rfl)) (by kernel_rfl) (uK T.tb_law hcd rfl (List.mem_of_getElem? (i:=1) rfl) T.hu_law rfl (LamP.free (by exact fX (ps:=[]) (by kernel_rfl)))) (by intro _ _ _ _ us hl;exact match us,hl with | [],_=>rfl) (fun A outer s H E f c hr=>by exact (aM C_read_parcel (hr.mono (by decide)) rfl (takes_of rfl rfl rfl rfl) (aj ((aq (i:=0))) (aj ((aq (i:=1))) aA)))))) (aj ((aM C__law_due (hr.mono (by decide)) rfl (takes_of rfl rfl rfl rfl) (aj ((aq (i:=3))) (aj ((aq (i:=14))) aA)))) aA))))))) (aK (bA ((xM)))) bH))))))))))))) (aF (dF (i:=5) S.nd ((SL.se (cD (aj ((jQ)) (aj ((aG)) (aj ((aU aA)) (aj ((aU (aj ((aG)) aA))) (aj ((aU (aj ((aG)) (aj ((aU aA)) aA)))) (aj ((aU (aj ((aG)) (aj ((SL.se (cD (aj ((aY)) aA)))) aA)))) (aj ((aU (aj ((aG)) (aj ((aU aA)) aA)))) (aj ((aU (aj ((xM)) (aj ((aU aA)) aA)))) (aj ((aU (aj ((aG)) (aj ((aU (aj ((aY)) aA))) aA)))) (aj ((aY)) (aj ((SL.se (cD (aj ((aG)) (aj ((aU aA)) aA))))) aA))))))))))))))) (aF (dF (i:=5) S.nd ((bL (SE.o ((aq (i:=5)))) (SE.o ((aM C__law_draw (hr.mono (by decide)) rfl (takes_of rfl rfl rfl rfl) (aj ((aq (i:=1))) (aj ((aG)) aA)))))))) (aF (dF (i:=6) S.nd ((Iu (eE (PB hr.room) (SE.o ((aq (i:=5)))) (SE.o ((aU (aj ((aG)) (aj ((aU aA)) aA)))))) (aU (aj ((aY)) (aj ((aq (i:=5))) aA))) (SL.se (cD (aj ((aY)) aA)))))) (aF (cV (dD (bV (SE.o ((aM C__law_like (hr.mono (by decide)) rfl (takes_of rfl rfl rfl rfl) (aj ((by exact uX (Ng:=["call","e","found","told_so","error"]) (psg:=[]) (mlam:=yJ) (k:=10) (ps:=[]) (cap:=[(3,"net"),(5,"odd")]) C__law_said (hr.mono (by decide)) (by decide) rfl (takes_of rfl rfl rfl rfl) (by exact fX (by kernel_rfl)) (by kernel_rfl) (uK T.tb_law hcd rfl (List.mem_of_getElem? (i:=1) rfl) T.hu_law rfl (LamP.free (by exact fX (ps:=[]) (by kernel_rfl)))) (by intro _ _ _ _ us hl;exact match us,hl with | [],_=>rfl) (fun A outer s H E f c hr=>by exact (aM C_parcel_text (hr.mono (by decide)) rfl (takes_of rfl rfl rfl rfl) (aj ((aq (i:=0))) (aj ((aq (i:=1))) aA)))))) (aj ((aq (i:=6))) aA))))))) (aK (bA ((xM)))) bH) (aF (dF (i:=7) S.nd ((bL (SE.o ((SL.se (cD (aj ((jQ)) (aj ((aU aA)) (aj ((aG)) (aj ((zj (SE.o ((aq (i:=3)))) nW (ou ((aG))))) (aj ((SL.se (JM Wr rfl T.g_list PyProof.Rows.Boot.«list» (aH (SE.o ((aq (i:=3)))) aN)))) (aj ((aU (aj ((aU aA)) (aj ((bL (SE.o ((aq (i:=3)))) (SE.o ((aG))))) (aj ((bL (SE.o ((aq (i:=3)))) (SE.o ((aG))))) aA))))) aA)))))))))) (SE.o ((aM C__law_draw (hr.mono (by decide)) rfl (takes_of rfl rfl rfl rfl) (aj ((aq (i:=1))) (aj ((aG)) aA)))))))) (aF (dF (i:=8) S.nd ((Iu (eE (yO hr.room) (SE.o ((aq (i:=7)))) (SE.o ((aU (aj ((aU aA)) (aj ((bL (SE.o ((aq (i:=3)))) (SE.o ((aG))))) (aj ((bL (SE.o ((aq (i:=3)))) (SE.o ((aG))))) aA))))))) (aU (aj ((aY)) aA)) (aU aA)))) (aF (rO (i:=9) S.nd (cD (aj ((by exact uX (Ng:=["call","e","found","told_so","error"]) (psg:=[]) (mlam:=uz) (k:=9) (ps:=[]) (cap:=[(7,"bad")]) C__law_said (hr.mono (by decide)) (by decide) rfl (takes_of rfl rfl rfl rfl) (by exact fX (by kernel_rfl)) (by kernel_rfl) (uK T.tb_law hcd rfl (List.mem_of_getElem? (i:=1) rfl) T.hu_law rfl (LamP.free (by exact fX (ps:=[]) (by kernel_rfl)))) (by intro _ _ _ _ us hl;exact match us,hl with | [],_=>rfl) (fun A outer s H E f c hr=>by exact (aM C_net_text (hr.mono (by decide)) rfl (takes_of rfl rfl rfl rfl) (aj ((aq (i:=0))) aA))))) (aj ((by exact Xk (Ng:=["call","e","found","told_so","error"]) (psg:=[]) (mlam:=uh) (k:=10) (y:= "y") (i:=0) (cap:=[(7,"bad")]) C__law_said (hr.mono (by decide)) (by decide) rfl (takes_of rfl rfl rfl rfl) (by exact fX (by kernel_rfl)) (by kernel_rfl) (WL T.tb_law hcd rfl (List.mem_of_getElem? (i:=1) rfl) T.hu_law rfl rfl pe_int (LamP.free (by exact fX (ps:=["y"]) (by kernel_rfl)))) (fun _ _ _ _ _ _=>⟨_,rfl,rfl⟩) (fun A outer s H E f c hr=>by exact (aM C_parcel_text (hr.mono (by decide)) rfl (takes_of rfl rfl rfl rfl) (aj ((aq (i:=1))) (aj ((jQ)) aA)))))) aA)))) (aF (cO (i:=9) ((by exact uX (Ng:=["call","e","found","told_so","error"]) (psg:=[]) (mlam:=tX) (k:=10) (ps:=[]) (cap:=[(7,"bad")]) C__law_said (hr.mono (by decide)) (by decide) rfl (takes_of rfl rfl rfl rfl) (by exact fX (by kernel_rfl)) (by kernel_rfl) (uK T.tb_law hcd rfl (List.mem_of_getElem? (i:=1) rfl) T.hu_law rfl (LamP.free (by exact fX (ps:=[]) (by kernel_rfl)))) (by intro _ _ _ _ us hl;exact match us,hl with | [],_=>rfl) (fun A outer s H E f c hr=>by exact (aM C_read_parcel (hr.mono (by decide)) rfl (takes_of rfl rfl rfl rfl) (aj ((aq (i:=0))) (aj ((jQ)) aA))))))) (Sy 9 (aK (cV (STw.st (oW (dD (bV (SE.o ((aM C__law_like (hr.mono (by decide)) rfl (takes_of rfl rfl rfl rfl) (aj ((aq (i:=9))) (aj ((cH acj (SE.o ((SL.se (cD (aj ((aU (aj ((aY)) (aj ((aq (i:=8))) aA)))) aA))))) (SE.o ((aG))))) aA))))))) (jD (eE (PB hr.room) (SE.o ((aM C_read_net (hr.mono (by decide)) rfl (takes_of rfl rfl rfl rfl) (aj ((aM C_net_text (hr.mono (by decide)) rfl (takes_of rfl rfl rfl rfl) (aj ((aq (i:=3))) aA))) aA)))) (SE.o ((aq (i:=3)))))))) (aK (bA ((xM)))) bH)))))))))))))) (aK (bA ((xM)))))
 obtain ⟨tr,pr,hq⟩:=W.ex
 exact ⟨_,pss_cons (ps_set (i:=1) S.nd rfl (by first | exact Or.inl rfl | exact Or.inr rfl) (Zq CB (hr.mono (by decide)) rfl (takes_of rfl rfl rfl rfl) (pa_cons (pv 0) pa_nil))) pr,VF (X:=cxOf (L2.CX PP w) PP w K mg base ["script","m","turn","net","again","odd","due","bad","place","told_so","parcel","words","bent","some","text"] "law" (defScope (top 77)) fl cdv A outer s H E) rfl hq h⟩
theorem oN (hx:Yn K cX true=true) (e:Lj K (He.fAd K ("BadNet",some "__init__"))=some (("__init__" : Str),("BadNet.__init__" : Str),defArgs (ini 2),FuncBody.stmts (defBody (ini 2)),defScope (ini 2),mainGlobals,[("__class__" : Str)],builtinsNs)) (hi:Ji K cX (He.fAd K ("BadNet",some "__init__")) "BadNet.__init__" PP.main.file=true) (hno0:findIn K (.ref cX) "place" = some none) (gm:mg "BadNet" = some (.ref cX)) (hs:mg "super" = none):ExC PP w K mg base "BadNet" cX ["place"] ["place"]:=by
 obtain ⟨B,nw,it,bm,XC0⟩:=Lf hx
 obtain ⟨fd,F,hit,kV,doc,pm,an,cdv,ct,cc,rfl⟩:=Kv (P:=PP) e hi
 have S:XS ["self","place"] (defScope (ini 2)):=⟨rfl,rfl,rfl,by decide +kernel,by decide +kernel,by decide +kernel,by decide +kernel,rfl,rfl⟩
 refine ⟨⟨_,_,["self","place"],⟨_,_,_,_,XC0⟩,hit,F.ty,X3 (k:=0) XC0 S (by exact ⟨⟨_,rfl,rfl⟩,rfl,hs,fun _ _ _=>rfl,⟨_,fun _ _ _=>rfl⟩⟩) F hno0 rfl rfl rfl rfl (fun _ _ _=>rfl),fun s us hl=>BindsTo.of_eq ?_,fun s a us hl=>BindsTo.of_eq ?_⟩,gm,XC0.kC⟩
 ·exact match us,hl with | [_,_],_=>rfl
 ·exact match us,hl with | [_],_=>rfl
theorem rD (hx:Yn K eV true=true) (e:Lj K (He.fAd K ("BadFailed",some "__init__"))=some (("__init__" : Str),("BadFailed.__init__" : Str),defArgs (ini 6),FuncBody.stmts (defBody (ini 6)),defScope (ini 6),mainGlobals,[("__class__" : Str)],builtinsNs)) (hi:Ji K eV (He.fAd K ("BadFailed",some "__init__")) "BadFailed.__init__" PP.main.file=true) (hno0:findIn K (.ref eV) "value" = some none) (gm:mg "BadFailed" = some (.ref eV)) (hs:mg "super" = none):ExC PP w K mg base "BadFailed" eV ["value"] ["value"]:=by
 obtain ⟨B,nw,it,bm,XC0⟩:=Lf hx
 obtain ⟨fd,F,hit,kV,doc,pm,an,cdv,ct,cc,rfl⟩:=Kv (P:=PP) e hi
 have S:XS ["self","value"] (defScope (ini 6)):=⟨rfl,rfl,rfl,by decide +kernel,by decide +kernel,by decide +kernel,by decide +kernel,rfl,rfl⟩
 refine ⟨⟨_,_,["self","value"],⟨_,_,_,_,XC0⟩,hit,F.ty,X3 (k:=0) XC0 S (by exact ⟨⟨_,rfl,rfl⟩,rfl,hs,fun _ _ _=>rfl,⟨_,fun _ _ _=>rfl⟩⟩) F hno0 rfl rfl rfl rfl (fun _ _ _=>rfl),fun s us hl=>BindsTo.of_eq ?_,fun s a us hl=>BindsTo.of_eq ?_⟩,gm,XC0.kC⟩
 ·exact match us,hl with | [_,_],_=>rfl
 ·exact match us,hl with | [_],_=>rfl
theorem rP (hx:Yn K bW true=true) (e:Lj K (He.fAd K ("BadParcel",some "__init__"))=some (("__init__" : Str),("BadParcel.__init__" : Str),defArgs (ini 7),FuncBody.stmts (defBody (ini 7)),defScope (ini 7),mainGlobals,[("__class__" : Str)],builtinsNs)) (hi:Ji K bW (He.fAd K ("BadParcel",some "__init__")) "BadParcel.__init__" PP.main.file=true) (hno0:findIn K (.ref bW) "value" = some none) (gm:mg "BadParcel" = some (.ref bW)) (hs:mg "super" = none):ExC PP w K mg base "BadParcel" bW ["value"] ["value"]:=by
 obtain ⟨B,nw,it,bm,XC0⟩:=Lf hx
 obtain ⟨fd,F,hit,kV,doc,pm,an,cdv,ct,cc,rfl⟩:=Kv (P:=PP) e hi
 have S:XS ["self","value"] (defScope (ini 7)):=⟨rfl,rfl,rfl,by decide +kernel,by decide +kernel,by decide +kernel,by decide +kernel,rfl,rfl⟩
 refine ⟨⟨_,_,["self","value"],⟨_,_,_,_,XC0⟩,hit,F.ty,X3 (k:=0) XC0 S (by exact ⟨⟨_,rfl,rfl⟩,rfl,hs,fun _ _ _=>rfl,⟨_,fun _ _ _=>rfl⟩⟩) F hno0 rfl rfl rfl rfl (fun _ _ _=>rfl),fun s us hl=>BindsTo.of_eq ?_,fun s a us hl=>BindsTo.of_eq ?_⟩,gm,XC0.kC⟩
 ·exact match us,hl with | [_,_],_=>rfl
 ·exact match us,hl with | [_],_=>rfl
theorem mU (hx:Yn K bF true=true) (e:Lj K (He.fAd K ("BadLine",some "__init__"))=some (("__init__" : Str),("BadLine.__init__" : Str),defArgs (ini 9),FuncBody.stmts (defBody (ini 9)),defScope (ini 9),mainGlobals,[("__class__" : Str)],builtinsNs)) (hi:Ji K bF (He.fAd K ("BadLine",some "__init__")) "BadLine.__init__" PP.main.file=true) (hno0:findIn K (.ref bF) "line" = some none) (hno1:findIn K (.ref bF) "word" = some none) (gm:mg "BadLine" = some (.ref bF)) (hs:mg "super" = none):ExC PP w K mg base "BadLine" bF ["line","word"] ["line","word"]:=by
 obtain ⟨B,nw,it,bm,XC0⟩:=Lf hx
 obtain ⟨fd,F,hit,kV,doc,pm,an,cdv,ct,cc,rfl⟩:=Kv (P:=PP) e hi
 have S:XS ["self","line","word"] (defScope (ini 9)):=⟨rfl,rfl,rfl,by decide +kernel,by decide +kernel,by decide +kernel,by decide +kernel,rfl,rfl⟩
 refine ⟨⟨_,_,["self","line","word"],⟨_,_,_,_,XC0⟩,hit,F.ty,acX (k:=0) XC0 S (by exact ⟨⟨_,rfl,rfl⟩,rfl,hs,fun _ _ _=>rfl,⟨_,fun _ _ _=>rfl⟩⟩) F hno0 hno1 rfl rfl rfl rfl rfl rfl (fun _ _ _=>rfl) (fun _ _ _=>rfl),fun s us hl=>BindsTo.of_eq ?_,fun s a us hl=>BindsTo.of_eq ?_⟩,gm,XC0.kC⟩
 ·exact match us,hl with | [_,_,_],_=>rfl
 ·exact match us,hl with | [_,_],_=>rfl
end
theorem facts {w:World}{K:Frag}{h:Heap}{mg:Str→Option Value}{f:Addr}(X:K.In h) (G:h.Ns mainGlobals mg) (hfa:mg ("law" : Str)=some (.ref f)) (c:SaysP fa fn aa1 tf ex h K) :
  ∃fd:FuncData,(∀(s:Shared) (v:Value),BindsTo s fd ⟨[v],[]⟩ [("script",v)])∧∀base:Heap,K.In base→base.Ns mainGlobals mg→(∀p∈tf.map (He.cT K),LamX.TabB base mg p.1 p.2)→FnG PP w K mg base 13 f fd ["script"] (Ra K (TB K) 13 Im):=by
 have c1:He.SaysD fa fn K:=c.d
 have m:=c.more
 unfold ex at m
 simp only [Bool.and_eq_true,decide_eq_true_eq] at m
 obtain ⟨⟨⟨⟨⟨⟨⟨⟨⟨⟨⟨⟨⟨⟨⟨⟨⟨⟨⟨⟨⟨⟨⟨⟨⟨q_NetError,q_BadNet⟩,q_BadNumber⟩,q_BadRoad⟩,q_BadHead⟩,q_BadFailed⟩,q_BadParcel⟩,q_BadChoices⟩,q_BadLine⟩,q_TooGreat⟩,q_Line⟩,q_DIGITS⟩,hNd⟩,hSm⟩,hIs⟩,hAt⟩,xc_BadNet⟩,xc_BadFailed⟩,xc_BadParcel⟩,xc_BadLine⟩,ib_BadNet⟩,ib_BadFailed⟩,ib_BadParcel⟩,ib_BadLine⟩,hc_0⟩,tx_DIGITS⟩:=m
 have gl:∀x:Str,He.Fa.glo x∈fa→mg x=some (.ref (He.ga K x)):=fun x hx=>He.glo_ok X G (c1.facts hx)
 have fr:∀x:Str,He.Fa.free x∈fa→mg x=none:=fun x hx=>He.free_ok X G (c1.facts hx)
 have gc:∀(x:Str) (a:Addr),He.ga K x=a→He.Fa.glo x∈fa→mg x=some (.ref a):=fun x a e hx=>by rw [←e];exact gl x hx
 have df:∀d:He.DefD,d∈fn→∃fd,FunD K d.name d.qual d.params d.body d.scope (d.dvs K) (d.kws K) (He.fAd K d.at_) fd:=fun d hd=>c1.defs hd
 have cl_Line:Cls K aD:=by
  have z:=He.cls_ok (c1.facts (List.mem_of_getElem? (i:=89) rfl))
  rw [q_Line] at z
  exact z
 have fd_words:∀C∈[aD],Br K C "words" :=fun C hC=>by
  rw [List.mem_singleton] at hC
  subst hC
  have z:=He.noat_ok (c1.facts (List.mem_of_getElem? (i:=91) rfl))
  rw [q_Line] at z
  exact ⟨cl_Line,z⟩
 have fd_number:∀C∈[aD],Br K C "number" :=fun C hC=>by
  rw [List.mem_singleton] at hC
  subst hC
  have z:=He.noat_ok (c1.facts (List.mem_of_getElem? (i:=92) rfl))
  rw [q_Line] at z
  exact ⟨cl_Line,z⟩
 have fd_at:∀C∈[aD],Br K C "at" :=fun C hC=>by
  rw [List.mem_singleton] at hC
  subst hC
  have z:=He.noat_ok (c1.facts (List.mem_of_getElem? (i:=93) rfl))
  rw [q_Line] at z
  exact ⟨cl_Line,z⟩
 have F_is_whole:DefF K mg "is_whole" (top 23):=by
  obtain ⟨fd,D⟩:=df Ht (List.mem_of_getElem? (i:=0) rfl)
  exact ⟨_,fd,D,gl "is_whole" (List.mem_of_getElem? (i:=0) rfl)⟩
 have F_is_among:DefF K mg "is_among" (top 24):=by
  obtain ⟨fd,D⟩:=df Gu (List.mem_of_getElem? (i:=1) rfl)
  exact ⟨_,fd,D,gl "is_among" (List.mem_of_getElem? (i:=1) rfl)⟩
 have F_is_tuple:DefF K mg "is_tuple" (top 25):=by
  obtain ⟨fd,D⟩:=df HJ (List.mem_of_getElem? (i:=2) rfl)
  exact ⟨_,fd,D,gl "is_tuple" (List.mem_of_getElem? (i:=2) rfl)⟩
 have F_is_word:DefF K mg "is_word" (top 26):=by
  obtain ⟨fd,D⟩:=df Jw (List.mem_of_getElem? (i:=3) rfl)
  exact ⟨_,fd,D,gl "is_word" (List.mem_of_getElem? (i:=3) rfl)⟩
 have F_is_road_pair:DefF K mg "is_road_pair" (top 27):=by
  obtain ⟨fd,D⟩:=df wR (List.mem_of_getElem? (i:=4) rfl)
  exact ⟨_,fd,D,gl "is_road_pair" (List.mem_of_getElem? (i:=4) rfl)⟩
 have F_is_label:DefF K mg "is_label" (top 28):=by
  obtain ⟨fd,D⟩:=df Gf (List.mem_of_getElem? (i:=5) rfl)
  exact ⟨_,fd,D,gl "is_label" (List.mem_of_getElem? (i:=5) rfl)⟩
 have F_are_labels:DefF K mg "are_labels" (top 29):=by
  obtain ⟨fd,D⟩:=df Aq (List.mem_of_getElem? (i:=6) rfl)
  exact ⟨_,fd,D,gl "are_labels" (List.mem_of_getElem? (i:=6) rfl)⟩
 have F_is_key:DefF K mg "is_key" (top 30):=by
  obtain ⟨fd,D⟩:=df Ow (List.mem_of_getElem? (i:=7) rfl)
  exact ⟨_,fd,D,gl "is_key" (List.mem_of_getElem? (i:=7) rfl)⟩
 have F_is_choice:DefF K mg "is_choice" (top 31):=by
  obtain ⟨fd,D⟩:=df Ef (List.mem_of_getElem? (i:=8) rfl)
  exact ⟨_,fd,D,gl "is_choice" (List.mem_of_getElem? (i:=8) rfl)⟩
 have F_is_group:DefF K mg "is_group" (top 32):=by
  obtain ⟨fd,D⟩:=df GF (List.mem_of_getElem? (i:=9) rfl)
  exact ⟨_,fd,D,gl "is_group" (List.mem_of_getElem? (i:=9) rfl)⟩
 have F_is_row:DefF K mg "is_row" (top 33):=by
  obtain ⟨fd,D⟩:=df Nf (List.mem_of_getElem? (i:=10) rfl)
  exact ⟨_,fd,D,gl "is_row" (List.mem_of_getElem? (i:=10) rfl)⟩
 have F_need_items:DefF K mg "need_items" (top 34):=by
  obtain ⟨fd,D⟩:=df Az (List.mem_of_getElem? (i:=11) rfl)
  exact ⟨_,fd,D,gl "need_items" (List.mem_of_getElem? (i:=11) rfl)⟩
 have F_need_net:DefL K mg "need_net" (top 35):=by
  obtain ⟨fd,D⟩:=df Gz (List.mem_of_getElem? (i:=12) rfl)
  exact ⟨⟨fd,D⟩,gl "need_net" (List.mem_of_getElem? (i:=12) rfl)⟩
 have F_need_failed:DefF K mg "need_failed" (top 36):=by
  obtain ⟨fd,D⟩:=df yS (List.mem_of_getElem? (i:=13) rfl)
  exact ⟨_,fd,D,gl "need_failed" (List.mem_of_getElem? (i:=13) rfl)⟩
 have F_is_parcel_of:DefF K mg "is_parcel_of" (top 39):=by
  obtain ⟨fd,D⟩:=df yc (List.mem_of_getElem? (i:=14) rfl)
  exact ⟨_,fd,D,gl "is_parcel_of" (List.mem_of_getElem? (i:=14) rfl)⟩
 have F_need_all:DefF K mg "need_all" (top 40):=by
  obtain ⟨fd,D⟩:=df Ij (List.mem_of_getElem? (i:=15) rfl)
  exact ⟨_,fd,D,gl "need_all" (List.mem_of_getElem? (i:=15) rfl)⟩
 have F_choice_words:DefF K mg "choice_words" (top 50):=by
  obtain ⟨fd,D⟩:=df xG (List.mem_of_getElem? (i:=16) rfl)
  exact ⟨_,fd,D,gl "choice_words" (List.mem_of_getElem? (i:=16) rfl)⟩
 have F_group_text:DefF K mg "group_text" (top 51):=by
  obtain ⟨fd,D⟩:=df Am (List.mem_of_getElem? (i:=17) rfl)
  exact ⟨_,fd,D,gl "group_text" (List.mem_of_getElem? (i:=17) rfl)⟩
 have F_row_text:DefF K mg "row_text" (top 52):=by
  obtain ⟨fd,D⟩:=df Hz (List.mem_of_getElem? (i:=18) rfl)
  exact ⟨_,fd,D,gl "row_text" (List.mem_of_getElem? (i:=18) rfl)⟩
 have F_net_text:DefF K mg "net_text" (top 53):=by
  obtain ⟨fd,D⟩:=df G3 (List.mem_of_getElem? (i:=19) rfl)
  exact ⟨_,fd,D,gl "net_text" (List.mem_of_getElem? (i:=19) rfl)⟩
 have F_parcel_words:DefF K mg "parcel_words" (top 54):=by
  obtain ⟨fd,D⟩:=df wA (List.mem_of_getElem? (i:=20) rfl)
  exact ⟨_,fd,D,gl "parcel_words" (List.mem_of_getElem? (i:=20) rfl)⟩
 have F_parcel_text:DefF K mg "parcel_text" (top 55):=by
  obtain ⟨fd,D⟩:=df yX (List.mem_of_getElem? (i:=21) rfl)
  exact ⟨_,fd,D,gl "parcel_text" (List.mem_of_getElem? (i:=21) rfl)⟩
 have F_Line_is_over:DefM K aD "is_over" "Line.is_over" (met 56 1):=by
  obtain ⟨fd,D⟩:=df wU (List.mem_of_getElem? (i:=22) rfl)
  have D:FunD K "is_over" "Line.is_over" (defArgs (met 56 1)) (defBody (met 56 1)) (defScope (met 56 1)) [] [] (He.ma K (He.ga K "Line") "is_over") fd:=D
  have h:=He.meth_ok (c1.facts (List.mem_of_getElem? (i:=94) rfl))
  rw [q_Line] at h D
  exact ⟨_,fd,D,h.at_,h.fn⟩
 have F_Line_refuse:DefM K aD "refuse" "Line.refuse" (met 56 2):=by
  obtain ⟨fd,D⟩:=df zf (List.mem_of_getElem? (i:=23) rfl)
  have D:FunD K "refuse" "Line.refuse" (defArgs (met 56 2)) (defBody (met 56 2)) (defScope (met 56 2)) [] [] (He.ma K (He.ga K "Line") "refuse") fd:=D
  have h:=He.meth_ok (c1.facts (List.mem_of_getElem? (i:=95) rfl))
  rw [q_Line] at h D
  exact ⟨_,fd,D,h.at_,h.fn⟩
 have F_Line_is_next:DefM K aD "is_next" "Line.is_next" (met 56 3):=by
  obtain ⟨fd,D⟩:=df wM (List.mem_of_getElem? (i:=24) rfl)
  have D:FunD K "is_next" "Line.is_next" (defArgs (met 56 3)) (defBody (met 56 3)) (defScope (met 56 3)) [] [] (He.ma K (He.ga K "Line") "is_next") fd:=D
  have h:=He.meth_ok (c1.facts (List.mem_of_getElem? (i:=96) rfl))
  rw [q_Line] at h D
  exact ⟨_,fd,D,h.at_,h.fn⟩
 have F_Line_one_of:DefM K aD "one_of" "Line.one_of" (met 56 4):=by
  obtain ⟨fd,D⟩:=df zE (List.mem_of_getElem? (i:=25) rfl)
  have D:FunD K "one_of" "Line.one_of" (defArgs (met 56 4)) (defBody (met 56 4)) (defScope (met 56 4)) [] [] (He.ma K (He.ga K "Line") "one_of") fd:=D
  have h:=He.meth_ok (c1.facts (List.mem_of_getElem? (i:=97) rfl))
  rw [q_Line] at h D
  exact ⟨_,fd,D,h.at_,h.fn⟩
 have F_Line_next_word:DefM K aD "next_word" "Line.next_word" (met 56 5):=by
  obtain ⟨fd,D⟩:=df tR (List.mem_of_getElem? (i:=26) rfl)
  have D:FunD K "next_word" "Line.next_word" (defArgs (met 56 5)) (defBody (met 56 5)) (defScope (met 56 5)) [] [] (He.ma K (He.ga K "Line") "next_word") fd:=D
  have h:=He.meth_ok (c1.facts (List.mem_of_getElem? (i:=98) rfl))
  rw [q_Line] at h D
  exact ⟨_,fd,D,h.at_,h.fn⟩
 have F_Line_next_labels:DefM K aD "next_labels" "Line.next_labels" (met 56 6):=by
  obtain ⟨fd,D⟩:=df rA (List.mem_of_getElem? (i:=27) rfl)
  have D:FunD K "next_labels" "Line.next_labels" (defArgs (met 56 6)) (defBody (met 56 6)) (defScope (met 56 6)) [] [] (He.ma K (He.ga K "Line") "next_labels") fd:=D
  have h:=He.meth_ok (c1.facts (List.mem_of_getElem? (i:=99) rfl))
  rw [q_Line] at h D
  exact ⟨_,fd,D,h.at_,h.fn⟩
 have F_Line_next_choice:DefM K aD "next_choice" "Line.next_choice" (met 56 7):=by
  obtain ⟨fd,D⟩:=df ql (List.mem_of_getElem? (i:=28) rfl)
  have D:FunD K "next_choice" "Line.next_choice" (defArgs (met 56 7)) (defBody (met 56 7)) (defScope (met 56 7)) [] [] (He.ma K (He.ga K "Line") "next_choice") fd:=D
  have h:=He.meth_ok (c1.facts (List.mem_of_getElem? (i:=100) rfl))
  rw [q_Line] at h D
  exact ⟨_,fd,D,h.at_,h.fn⟩
 have F_Line_need_over:DefM K aD "need_over" "Line.need_over" (met 56 8):=by
  obtain ⟨fd,D⟩:=df ux (List.mem_of_getElem? (i:=29) rfl)
  have D:FunD K "need_over" "Line.need_over" (defArgs (met 56 8)) (defBody (met 56 8)) (defScope (met 56 8)) [] [] (He.ma K (He.ga K "Line") "need_over") fd:=D
  have h:=He.meth_ok (c1.facts (List.mem_of_getElem? (i:=101) rfl))
  rw [q_Line] at h D
  exact ⟨_,fd,D,h.at_,h.fn⟩
 have F_Line___init__:DefI K mg "Line" "Line.__init__" aD (met 56 0):=by
  obtain ⟨fd,D⟩:=df vR (List.mem_of_getElem? (i:=30) rfl)
  have D:FunD K "__init__" "Line.__init__" (defArgs (met 56 0)) (defBody (met 56 0)) (defScope (met 56 0)) [] [] (He.ma K (He.ga K "Line") "__init__") fd:=D
  have h:=He.mkr_ok (c1.facts (List.mem_of_getElem? (i:=90) rfl))
  rw [q_Line] at h D
  exact ⟨gc "Line" _ q_Line (List.mem_of_getElem? (i:=52) rfl),_,fd,D,h⟩
 have F_groups_in:DefF K mg "groups_in" (top 57):=by
  obtain ⟨fd,D⟩:=df Dm (List.mem_of_getElem? (i:=31) rfl)
  exact ⟨_,fd,D,gl "groups_in" (List.mem_of_getElem? (i:=22) rfl)⟩
 have F_key_in:DefF K mg "key_in" (top 58):=by
  obtain ⟨fd,D⟩:=df MJ (List.mem_of_getElem? (i:=32) rfl)
  exact ⟨_,fd,D,gl "key_in" (List.mem_of_getElem? (i:=23) rfl)⟩
 have F_row_in:DefF K mg "row_in" (top 59):=by
  obtain ⟨fd,D⟩:=df O4 (List.mem_of_getElem? (i:=33) rfl)
  exact ⟨_,fd,D,gl "row_in" (List.mem_of_getElem? (i:=24) rfl)⟩
 have F_labels_in:DefF K mg "labels_in" (top 60):=by
  obtain ⟨fd,D⟩:=df Dt (List.mem_of_getElem? (i:=34) rfl)
  exact ⟨_,fd,D,gl "labels_in" (List.mem_of_getElem? (i:=25) rfl)⟩
 have F_read_net:DefF K mg "read_net" (top 61):=by
  obtain ⟨fd,D⟩:=df Gy (List.mem_of_getElem? (i:=35) rfl)
  exact ⟨_,fd,D,gl "read_net" (List.mem_of_getElem? (i:=26) rfl)⟩
 have F_parcel_in:DefF K mg "parcel_in" (top 62):=by
  obtain ⟨fd,D⟩:=df Dk (List.mem_of_getElem? (i:=36) rfl)
  exact ⟨_,fd,D,gl "parcel_in" (List.mem_of_getElem? (i:=27) rfl)⟩
 have F_read_parcel:DefF K mg "read_parcel" (top 63):=by
  obtain ⟨fd,D⟩:=df yR (List.mem_of_getElem? (i:=37) rfl)
  exact ⟨_,fd,D,gl "read_parcel" (List.mem_of_getElem? (i:=28) rfl)⟩
 have F_law_mixed:DefF K mg "_law_mixed" (top 65):=by
  obtain ⟨fd,D⟩:=df Ec (List.mem_of_getElem? (i:=38) rfl)
  exact ⟨_,fd,D,gl "_law_mixed" (List.mem_of_getElem? (i:=29) rfl)⟩
 have F_law_folded:DefF K mg "_law_folded" (top 66):=by
  obtain ⟨fd,D⟩:=df Aa (List.mem_of_getElem? (i:=39) rfl)
  exact ⟨_,fd,D,gl "_law_folded" (List.mem_of_getElem? (i:=30) rfl)⟩
 have F_law_draw:DefF K mg "_law_draw" (top 67):=by
  obtain ⟨fd,D⟩:=df Gn (List.mem_of_getElem? (i:=40) rfl)
  exact ⟨_,fd,D,gl "_law_draw" (List.mem_of_getElem? (i:=31) rfl)⟩
 have F_law_begun:DefF K mg "_law_begun" (top 68):=by
  obtain ⟨fd,D⟩:=df Di (List.mem_of_getElem? (i:=41) rfl)
  exact ⟨_,fd,D,gl "_law_begun" (List.mem_of_getElem? (i:=32) rfl)⟩
 have F_law_like:DefF K mg "_law_like" (top 69):=by
  obtain ⟨fd,D⟩:=df FZ (List.mem_of_getElem? (i:=42) rfl)
  exact ⟨_,fd,D,gl "_law_like" (List.mem_of_getElem? (i:=33) rfl)⟩
 have F_law_label_menu:DefF K mg "_law_label_menu" (top 70):=by
  obtain ⟨fd,D⟩:=df tY (List.mem_of_getElem? (i:=43) rfl)
  exact ⟨_,fd,D,gl "_law_label_menu" (List.mem_of_getElem? (i:=34) rfl)⟩
 have F_law_choice:DefF K mg "_law_choice" (top 71):=by
  obtain ⟨fd,D⟩:=df BL (List.mem_of_getElem? (i:=44) rfl)
  exact ⟨_,fd,D,gl "_law_choice" (List.mem_of_getElem? (i:=35) rfl)⟩
 have F_law_groups:DefF K mg "_law_groups" (top 72):=by
  obtain ⟨fd,D⟩:=df Ag (List.mem_of_getElem? (i:=45) rfl)
  exact ⟨_,fd,D,gl "_law_groups" (List.mem_of_getElem? (i:=36) rfl)⟩
 have F_law_net:DefF K mg "_law_net" (top 73):=by
  obtain ⟨fd,D⟩:=df Jz (List.mem_of_getElem? (i:=46) rfl)
  exact ⟨_,fd,D,gl "_law_net" (List.mem_of_getElem? (i:=37) rfl)⟩
 have F_law_parcel:DefF K mg "_law_parcel" (top 74):=by
  obtain ⟨fd,D⟩:=df zY (List.mem_of_getElem? (i:=47) rfl)
  exact ⟨_,fd,D,gl "_law_parcel" (List.mem_of_getElem? (i:=38) rfl)⟩
 have F_law_said:DefF K mg "_law_said" (top 75):=by
  obtain ⟨fd,D⟩:=df Ip (List.mem_of_getElem? (i:=48) rfl)
  exact ⟨_,fd,D,gl "_law_said" (List.mem_of_getElem? (i:=39) rfl)⟩
 have F_law_due:DefF K mg "_law_due" (top 76):=by
  obtain ⟨fd,D⟩:=df Ka (List.mem_of_getElem? (i:=49) rfl)
  exact ⟨_,fd,D,gl "_law_due" (List.mem_of_getElem? (i:=40) rfl)⟩
 have F_law:DefL K mg "law" (top 77):=by
  obtain ⟨fd,D⟩:=df WK (List.mem_of_getElem? (i:=50) rfl)
  exact ⟨⟨fd,D⟩,gl "law" (List.mem_of_getElem? (i:=41) rfl)⟩
 obtain ⟨fd,D⟩:=df WK (List.mem_of_getElem? (i:=50) rfl)
 have e:=hfa.symm.trans (gl "law" (List.mem_of_getElem? (i:=41) rfl))
 cases e
 refine ⟨fd,fun s v=> ?_,fun base hK hG hTB=> ?_⟩
 ·have b:=FunD.bindsA (ps:=["script"]) D fun _ _ _ _ _ _ us hl=>match us,hl with | [_],_=>rfl
  exact b s [v] rfl
 ·skip
  have hAt2:=W9 hAt
  have T:Tells w K mg base:={
   g_all:=fr "all" (List.mem_of_getElem? (i:=54) rfl)
   g_any:=fr "any" (List.mem_of_getElem? (i:=55) rfl)
   g_bool:=fr "bool" (List.mem_of_getElem? (i:=56) rfl)
   g_enumerate:=fr "enumerate" (List.mem_of_getElem? (i:=57) rfl)
   g_int:=fr "int" (List.mem_of_getElem? (i:=58) rfl)
   g_isinstance:=fr "isinstance" (List.mem_of_getElem? (i:=59) rfl)
   g_len:=fr "len" (List.mem_of_getElem? (i:=60) rfl)
   g_list:=fr "list" (List.mem_of_getElem? (i:=61) rfl)
   g_min:=fr "min" (List.mem_of_getElem? (i:=62) rfl)
   g_range:=fr "range" (List.mem_of_getElem? (i:=63) rfl)
   g_repr:=fr "repr" (List.mem_of_getElem? (i:=64) rfl)
   g_sorted:=fr "sorted" (List.mem_of_getElem? (i:=65) rfl)
   g_str:=fr "str" (List.mem_of_getElem? (i:=66) rfl)
   g_super:=fr "super" (List.mem_of_getElem? (i:=67) rfl)
   g_tuple:=fr "tuple" (List.mem_of_getElem? (i:=68) rfl)
   g_zip:=fr "zip" (List.mem_of_getElem? (i:=69) rfl)
   g_NetError:=gc "NetError" _ q_NetError (List.mem_of_getElem? (i:=42) rfl)
   g_BadNet:=gc "BadNet" _ q_BadNet (List.mem_of_getElem? (i:=43) rfl)
   g_BadNumber:=gc "BadNumber" _ q_BadNumber (List.mem_of_getElem? (i:=44) rfl)
   g_BadRoad:=gc "BadRoad" _ q_BadRoad (List.mem_of_getElem? (i:=45) rfl)
   g_BadHead:=gc "BadHead" _ q_BadHead (List.mem_of_getElem? (i:=46) rfl)
   g_BadFailed:=gc "BadFailed" _ q_BadFailed (List.mem_of_getElem? (i:=47) rfl)
   g_BadParcel:=gc "BadParcel" _ q_BadParcel (List.mem_of_getElem? (i:=48) rfl)
   g_BadChoices:=gc "BadChoices" _ q_BadChoices (List.mem_of_getElem? (i:=49) rfl)
   g_BadLine:=gc "BadLine" _ q_BadLine (List.mem_of_getElem? (i:=50) rfl)
   g_TooGreat:=gc "TooGreat" _ q_TooGreat (List.mem_of_getElem? (i:=51) rfl)
   g_Line:=gc "Line" _ q_Line (List.mem_of_getElem? (i:=52) rfl)
   g_DIGITS:=gc "DIGITS" _ q_DIGITS (List.mem_of_getElem? (i:=53) rfl)
   k_ALL:=He.str_ok X G (c1.facts (List.mem_of_getElem? (i:=70) rfl))
   k_ANY:=He.str_ok X G (c1.facts (List.mem_of_getElem? (i:=71) rfl))
   k_ELSE:=He.str_ok X G (c1.facts (List.mem_of_getElem? (i:=72) rfl))
   k_HOME:=He.str_ok X G (c1.facts (List.mem_of_getElem? (i:=73) rfl))
   k_LABELS:=He.str_ok X G (c1.facts (List.mem_of_getElem? (i:=74) rfl))
   k_LETTERS:=He.str_ok X G (c1.facts (List.mem_of_getElem? (i:=75) rfl))
   k_MOST_CHOICES:=He.int_ok X G (c1.facts (List.mem_of_getElem? (i:=76) rfl))
   k_MOST_GROUPS:=He.int_ok X G (c1.facts (List.mem_of_getElem? (i:=77) rfl))
   k_MOST_HOUSES:=He.int_ok X G (c1.facts (List.mem_of_getElem? (i:=78) rfl))
   k_MOST_LABELS:=He.int_ok X G (c1.facts (List.mem_of_getElem? (i:=79) rfl))
   k_MOST_LETTERS:=He.int_ok X G (c1.facts (List.mem_of_getElem? (i:=80) rfl))
   k_MOST_ROADS:=He.int_ok X G (c1.facts (List.mem_of_getElem? (i:=81) rfl))
   k_MOST_STACK:=He.int_ok X G (c1.facts (List.mem_of_getElem? (i:=82) rfl))
   k_MOST_WORD:=He.int_ok X G (c1.facts (List.mem_of_getElem? (i:=83) rfl))
   k_NO_LABEL:=He.str_ok X G (c1.facts (List.mem_of_getElem? (i:=84) rfl))
   k_OR:=He.str_ok X G (c1.facts (List.mem_of_getElem? (i:=85) rfl))
   k_ROAD:=He.str_ok X G (c1.facts (List.mem_of_getElem? (i:=86) rfl))
   k_ROW:=He.str_ok X G (c1.facts (List.mem_of_getElem? (i:=87) rfl))
   k_TO:=He.str_ok X G (c1.facts (List.mem_of_getElem? (i:=88) rfl))
   ct0:=W7 hc_0
   tb_need_net:=hTB _ (List.mem_map.mpr ⟨_,List.mem_of_getElem? (i:=0) rfl,rfl⟩)
   hu_need_net:=Tc hNd (List.mem_of_getElem? (i:=0) rfl)
   tb_law:=hTB _ (List.mem_map.mpr ⟨_,List.mem_of_getElem? (i:=1) rfl,rfl⟩)
   hu_law:=Tc hNd (List.mem_of_getElem? (i:=1) rfl)
   sm:=Option.isSome_iff_exists.mp hSm
   is:=Vv hIs
   at_:=hAt2
   tp:=fun a ys e=>by
    unfold tpT at e
    by_cases h:a=dH
    ·rw [if_pos h] at e
     cases e
     rw [h]
     exact Zy tx_DIGITS
    ·rw [if_neg h] at e
     cases e
   fd_words:=fd_words
   fd_number:=fd_number
   fd_at:=fd_at
   oN:=oN xc_BadNet (c.ini (List.mem_of_getElem? (i:=0) rfl)) ib_BadNet (hAt2.ok cX "place" (by decide +kernel)).2 (gc "BadNet" _ q_BadNet (List.mem_of_getElem? (i:=43) rfl)) (fr "super" (List.mem_of_getElem? (i:=67) rfl))
   rD:=rD xc_BadFailed (c.ini (List.mem_of_getElem? (i:=1) rfl)) ib_BadFailed (hAt2.ok eV "value" (by decide +kernel)).2 (gc "BadFailed" _ q_BadFailed (List.mem_of_getElem? (i:=47) rfl)) (fr "super" (List.mem_of_getElem? (i:=67) rfl))
   rP:=rP xc_BadParcel (c.ini (List.mem_of_getElem? (i:=2) rfl)) ib_BadParcel (hAt2.ok bW "value" (by decide +kernel)).2 (gc "BadParcel" _ q_BadParcel (List.mem_of_getElem? (i:=48) rfl)) (fr "super" (List.mem_of_getElem? (i:=67) rfl))
   mU:=mU xc_BadLine (c.ini (List.mem_of_getElem? (i:=3) rfl)) ib_BadLine (hAt2.ok bF "line" (by decide +kernel)).2 (hAt2.ok bF "word" (by decide +kernel)).2 (gc "BadLine" _ q_BadLine (List.mem_of_getElem? (i:=50) rfl)) (fr "super" (List.mem_of_getElem? (i:=67) rfl))
  }
  have C_is_whole:=Pb T F_is_whole
  have C_is_among:=M9 T F_is_among C_is_whole
  have C_is_tuple:=Oo T F_is_tuple
  have C_is_word:=QS T F_is_word
  have C_is_road_pair:=En T F_is_road_pair C_is_tuple C_is_among
  have C_is_label:=Mi T F_is_label
  have C_are_labels:=Iv T F_are_labels C_is_tuple C_is_label
  have C_is_key:=T8 T F_is_key C_is_tuple C_is_among C_is_label
  have C_is_choice:=Lw T F_is_choice C_is_tuple C_is_among C_are_labels
  have C_is_group:=N7 T F_is_group C_is_tuple C_is_choice
  have C_is_row:=Ua T F_is_row C_is_tuple C_is_key C_is_group
  have C_need_items:=Jh T F_need_items C_is_tuple
  have C_need_net:=Om T F_need_net C_is_tuple C_need_items C_is_road_pair C_is_word C_is_row
  have C_need_failed:=Fw T F_need_failed C_is_among
  have C_is_parcel_of:=Eu T F_is_parcel_of C_is_tuple C_is_among C_are_labels
  have C_need_all:=M4 T F_need_all C_need_failed C_need_net C_is_parcel_of
  have C_choice_words:=Eo T F_choice_words
  have C_group_text:=IV T F_group_text C_choice_words
  have C_row_text:=Nv T F_row_text C_group_text
  have C_net_text:=M7 T F_net_text C_need_net C_row_text
  have C_parcel_words:=El T F_parcel_words
  have C_parcel_text:=GD T F_parcel_text C_need_all C_parcel_words
  have M_Line_is_over:=Es T cl_Line F_Line_is_over
  have M_Line_refuse:=G4 T cl_Line F_Line_refuse
  have M_Line_is_next:=Ep T cl_Line F_Line_is_next M_Line_is_over
  have M_Line_one_of:=G7 T cl_Line F_Line_one_of M_Line_is_next M_Line_refuse
  have M_Line_next_word:=Ab T cl_Line F_Line_next_word M_Line_is_over C_is_word M_Line_refuse
  have M_Line_next_labels:=yL T cl_Line F_Line_next_labels M_Line_is_over C_is_word M_Line_next_word
  have M_Line_next_choice:=yM T cl_Line F_Line_next_choice M_Line_one_of M_Line_next_labels
  have M_Line_need_over:=Ae T cl_Line F_Line_need_over M_Line_is_over M_Line_refuse
  have N_Line:=CT T F_Line___init__
  have C_groups_in:=Ky T F_groups_in M_Line_next_choice M_Line_is_over M_Line_one_of
  have C_key_in:=Ul T F_key_in M_Line_one_of M_Line_is_next M_Line_next_word
  have C_row_in:=TX T F_row_in C_key_in M_Line_one_of M_Line_need_over C_groups_in
  have C_labels_in:=KD T F_labels_in M_Line_one_of M_Line_next_labels M_Line_next_word M_Line_need_over
  have C_read_net:=MP T F_read_net C_labels_in N_Line M_Line_one_of M_Line_need_over C_row_in C_need_net
  have C_parcel_in:=LQ T F_parcel_in M_Line_next_choice M_Line_need_over
  have C_read_parcel:=Hr T F_read_parcel C_need_net C_parcel_in N_Line C_need_all
  have C__law_mixed:=Lh T F_law_mixed
  have C__law_folded:=Jj T F_law_folded
  have C__law_draw:=ZF T F_law_draw (C__law_mixed.imp aaC)
  have CB:=VG T F_law_begun C__law_folded
  have C__law_like:=Mr T F_law_like
  have C__law_label_menu:=Bo T F_law_label_menu C__law_draw
  have C__law_choice:=Je T F_law_choice C__law_draw
  have C__law_groups:=Iz T F_law_groups C__law_draw C__law_choice
  have C__law_net:=QJ T F_law_net C__law_label_menu C__law_draw C__law_groups
  have C__law_parcel:=IW T F_law_parcel C__law_draw
  have C__law_said:=O6 T F_law_said
  have C__law_due:=QM T F_law_due
  exact abu T rfl D CB C__law_net C__law_parcel C__law_draw C__law_like C__law_due C__law_said C_read_parcel C_parcel_text C_net_text C_read_net
end PV.Law
namespace PV
open PySem PySem.W PySem.Calls PyProof.Rows L2
theorem CG (x:Str) (l:List Str):mH (.str x) (l.map .str)=decide (x∈l):=by
 unfold mH
 rw [List.any_map,Bool.eq_iff_iff,List.any_eq_true,decide_eq_true_iff]
 constructor
 ·rintro ⟨y,hy,e⟩
  have:y=x:=by simpa [PyData.eqv] using e
  exact this ▸ hy
 ·intro h
  exact ⟨x,h,by simp [PyData.eqv]⟩
theorem gK:∀l:List Str,PyData.depthAll (l.map PyData.str)=0
 | []=>rfl
 | x::l=>by rw [List.map_cons,PyData.depthAll,gK l];rfl
theorem layAll_str:∀l:List Str,(∀x∈l,PyData.strOk x=true)→PyData.canLayAll0 (l.map PyData.str)=true
 | [],_=>rfl
 | x::l,h=>by
  rw [List.map_cons,PyData.canLayAll0,layAll_str l fun y hy=>h y (List.mem_cons_of_mem _ hy)]
  show (PyData.strOk x&&true)=true
  rw [h x List.mem_cons_self]
  rfl
theorem G6 {w:List Str}(h:∀x∈w,PyData.strOk x=true):SeqAt.shaped (pW w)=true:=by
 unfold SeqAt.shaped pW
 rw [PyData.canLay0,layAll_str w h,PyData.depth,gK]
 rfl
theorem zK {x:Str}(h:PyData.strOk x=true):SeqAt.shaped (.str x)=true:=by
 unfold SeqAt.shaped
 rw [PyData.canLay0,h]
 rfl
theorem in_str {x:Str}{l:List Str}(hx:PyData.strOk x=true) (hl:∀y∈l,PyData.strOk y=true) (s:DS):inD (.str x) (eW l) s = .ok (.bl (decide (x∈l))) s:=by
 show K7 (some (PyData.str x)) (D.tM (l.map D.str)) _ s=_
 rw [fU (g:=PyData.str) _ (fun _=>rfl)]
 have h2:SeqAt.shaped (.tuple (l.map PyData.str))=true:=G6 hl
 show (if SeqAt.shaped (.str x)=true∧SeqAt.shaped (.tuple (l.map PyData.str))=true then ret (D.bl (mH (.str x) (l.map PyData.str))) else stk) s=_
 rw [if_pos ⟨zK hx,h2⟩,CG]
structure ChOk (roads:List (Int×Int)) (labels:List Str) (road:Nat) (c:Ch):Prop where
 road:∃(o:Nat) (p q:Int×Int),c.1=(o:Int)∧roads[o]?=some p∧roads[road]?=some q∧p.1=q.2
 len:c.2.length≤3
 lab:∀x∈c.2,x∈labels
structure RwOk (roads:List (Int×Int)) (labels:List Str) (r:Rw):Prop where
 key:∃n:Nat,r.1.1=(n:Int)∧n<roads.length∧(∀gs,r.2=some gs→1≤gs.length∧gs.length≤3∧∀g∈gs,1≤g.length∧g.length≤3∧g.Nodup∧∀c∈g,ChOk roads labels n c)
 top:r.1.2∈labels∨r.1.2 = ""
theorem oE {α:Type}{f:α→D}{xs:List α}{n:Nat}{x:α}(h:xs[n]?=some x):atI (xs.map f) (n:Int)=some (f x):=by
 refine atI_nat (by omega) ?_
 rw [Int.toNat_natCast,List.getElem?_map,h]
 rfl
theorem Ge {c:Ch}(h:∀x∈c.2,PyData.strOk x=true):SeqAt.shaped (pC c)=true:=by
 unfold SeqAt.shaped pC pW
 rw [PyData.canLay0,PyData.canLayAll0,PyData.canLayAll0,PyData.canLayAll0,PyData.canLay0,PyData.canLay0,layAll_str _ h,PyData.depth,PyData.depthAll,PyData.depthAll,PyData.depthAll,PyData.depth,PyData.depth,gK]
 rfl
theorem acA {c:Ch}(h:∀x∈c.2,PyData.strOk x=true):PyData.canLay0 (pC c)=true:=SeqAt.canLay_of_shaped (Ge h)
theorem wD:∀{g:List Ch},(∀c∈g,∀x∈c.2,PyData.strOk x=true)→PyData.canLayAll0 (g.map pC)=true
 | [],_=>rfl
 | c::g,h=>by
  rw [List.map_cons,PyData.canLayAll0,acA (h c List.mem_cons_self),wD fun d hd=>h d (List.mem_cons_of_mem _ hd)]
  rfl
theorem Zv (c:Ch):(pC c).depth=2:=by
 unfold pC pW
 rw [PyData.depth,PyData.depthAll,PyData.depthAll,PyData.depthAll,PyData.depth,PyData.depth,gK]
 rfl
theorem qI:∀g:List Ch,PyData.depthAll (g.map pC)≤2
 | []=>by simp [PyData.depthAll]
 | c::g=>by
  have:=qI g
  rw [List.map_cons,PyData.depthAll,Zv]
  omega
theorem U8 {g:List Ch}(h:∀c∈g,∀x∈c.2,PyData.strOk x=true):SeqAt.shaped (.tuple (g.map pC))=true:=by
 unfold SeqAt.shaped
 rw [PyData.canLay0,wD h,PyData.depth]
 have:=qI g
 simp
 omega
theorem Rc (c:Ch) (g:List Ch):mH (pC c) (g.map pC)=decide (c∈g):=by
 unfold mH
 rw [List.any_map,Bool.eq_iff_iff,List.any_eq_true,decide_eq_true_iff]
 constructor
 ·rintro ⟨y,hy,e⟩
  exact (Z8 y c).mp e ▸ hy
 ·intro h
  exact ⟨c,h,(Z8 c c).mpr rfl⟩
theorem aen {c:Ch}{g:List Ch}(hc:∀x∈c.2,PyData.strOk x=true) (hg:∀c∈g,∀x∈c.2,PyData.strOk x=true) (s:DS):inD (eC c) (.tup (g.map eC)) s = .ok (.bl (decide (c∈g))) s:=by
 show K7 (eC c).pd (D.tM (g.map eC)) _ s=_
 rw [fU (g:=pC) _ Xf,Xf]
 show (if SeqAt.shaped (pC c)=true∧SeqAt.shaped (.tuple (g.map pC))=true then ret (D.bl (mH (pC c) (g.map pC))) else stk) s=_
 rw [if_pos ⟨Ge hc,U8 hg⟩,Rc]
theorem Bf:∀(n:Nat) (xs:List D),jB n xs=(xs.zipIdx n).map fun p=> .tup [.int ((p.2:Nat):Int),p.1]
 | _,[]=>rfl
 | n,x::xs=>by rw [jB,List.zipIdx_cons,List.map_cons,Bf]
abbrev Av (labels:List Str):Prop:=∀y∈labels,PyData.strOk y=true
theorem ChOk.str {roads:List (Int×Int)}{labels:List Str}{road:Nat}{c:Ch}(h:ChOk roads labels road c) (hl:Av labels):∀x∈c.2,PyData.strOk x=true:=fun x hx=>hl x (h.lab x hx)
end PV
namespace PV.Law
open PySem PySem.W PySem.Calls PyProof.Rows L2 PV
@[simp] theorem aex {a b:D}:atI [a,b] 0=some a:=rfl
@[simp] theorem aei {a b:D}:atI [a,b] 1=some b:=rfl
@[simp] theorem afd {n:Nat}(h:n≤16777216):(n≤sizeLine)=True:=by simp [sizeLine_eq,h]
theorem Ba (i l h:Int) (s:DS):cY [.int i,.int l,.int h] s = .ok (.bl (decide (l≤i)&&decide (i≤h))) s:=by
 have e1:uJ [.int i] s = .ok (.bl true) s:=by kernel_rfl
 simp [cY,Ds,xX,e1]
 cases decide (l≤i)<;>simp
theorem iI (xs:List D) (l h:Int) (s:DS):aZ [.tup xs,.int l,.int h] s = .ok (.bl (decide (l≤(xs.length:Int))&&decide ((xs.length:Int)≤h))) s:=by
 have e1:kJ isT [.tup xs,.raw (.ty "tuple")] s = .ok (.bl true) s:=by kernel_rfl
 simp [aZ,Dj,xV,e1]
 cases decide (l≤(xs.length:Int))<;>simp
theorem aa3 (p:Int×Int) (s:DS) (h:(0≤p.1∧p.1≤7)∧0≤p.2∧p.2≤7):iV [eP p] s = .ok (.bl true) s:=by
 unfold eP
 simp [iV,vG,qN,iI,yQ,nox,Ba,jA,sizeLine_eq,Et,Bv,h]
theorem Lr {x:Str}{l:List Str}(hx:PyData.strOk x=true) (hl:∀y∈l,PyData.strOk y=true) (s:DS):gH [eW l,.str x] s = .ok (.bl (decide (x∈l))) s:=by
 have e1:kJ isT [.str x,.raw (.ty "str")] s = .ok (.bl true) s:=by kernel_rfl
 simp [gH,CW,xq,e1,in_str hx hl]
theorem XJ {w l:List Str}{m:Int}(hl:∀y∈l,PyData.strOk y=true) (hw:∀x∈w,x∈l) (hm:(w.length:Int)≤m) (hz:w.length≤16777216) (s:DS):fj [eW l,eW w,.int m] s = .ok (.bl true) s:=by
 have e1:aZ [eW w,.int 0,.int m] s = .ok (.bl true) s:=by unfold eW;rw [iI];simp [hm]
 have e2:yQ (gQ 3) (fun _=>ret true) (fun ls=>bnd ((ao (au 0) (ao (au 3) (fun _=>ret []))) ls) (aQ 2 (gH))) (w.map D.str) [.va (eW l),.va (eW w),.va (.int m),.un] s = .ok (w.map fun x=>D.bl true) s:=by
  refine lX (f:=fun _=>D.bl true) D.str w fun x hx=>⟨_,rfl,rfl,?_⟩
  simp [Lr (hl x (hw x hx)) hl,hw x hx]
 have e3:=xK (fun _:Str=>true) w s
 have e4:tZ (eW w) s = .ok (w.map D.str) s:=rfl
 simp at e2
 simp [fj,sX,mY,e1,jA,e4,hz,sizeLine_eq,e2,e3]
theorem aco {roads:List (Int×Int)}{labels:List Str}{n:Nat}{t:Str}(hl:Av labels) (hz:labels.length≤1000) (hn:n<roads.length) (ht:t∈labels∨t = "") (s:DS):xP [.tup (roads.map eP),eW labels,eK ((n:Int),t)] s = .ok (.bl true) s:=by
 have hs:PyData.strOk t=true:=by
  rcases ht with h | h
  ·exact hl t h
  ·subst h;decide +kernel
 have hl2:Av (labels++[("" : Str)]):=fun y hy=>by
  rcases List.mem_append.mp hy with h | h
  ·exact hl y h
  ·rw [List.mem_singleton.mp h];decide +kernel
 have e1:=Lr hs hl2 s
 have hm:t∈labels++[("" : Str)]:=by
  rcases ht with h | h
  ·exact List.mem_append_left _ h
  ·exact List.mem_append_right _ (List.mem_singleton.mpr h)
 have e0:eW (labels++[("" : Str)]) = .tup (labels.map D.str++[D.str ""]):=by unfold eW;rw [List.map_append];rfl
 rw [e0] at e1
 have e2:tZ (eW labels) s = .ok (labels.map D.str) s:=rfl
 have e3:atI [D.int (n:Int),D.str t] 0=some (D.int (n:Int)):=rfl
 have e4:atI [D.int (n:Int),D.str t] 1=some (D.str t):=rfl
 have h5:(n:Int)≤(roads.length:Int)-1:=by omega
 have h6:labels.length+1≤sizeLine:=by rw [sizeLine_eq];omega
 unfold eK
 simp [xP,JB,BJ,Bt,iI,Ba,e3,e4,h5,e2,h6,e1]
 exact ht
theorem Wh {roads:List (Int×Int)}{labels:List Str}{n:Nat}{c:Ch}(hl:Av labels) (h:ChOk roads labels n c) (s:DS):jX [.tup (roads.map eP),eW labels,.int (n:Int),eC c] s = .ok (.bl true) s:=by
 obtain ⟨o,p,q,e1,h1,h2,h3⟩:=h.road
 have e2:atI (roads.map eP) (o:Int)=some (eP p):=oE h1
 have e3:atI (roads.map eP) (n:Int)=some (eP q):=oE h2
 have hlt:o<roads.length:=(List.getElem?_eq_some_iff.mp h1).1
 have h5:(o:Int)≤(roads.length:Int)-1:=by omega
 have e4:atI [D.int (o:Int),eW c.2] 0=some (D.int (o:Int)):=rfl
 have e5:atI [D.int (o:Int),eW c.2] 1=some (eW c.2):=rfl
 have e6:atI [D.int p.1,D.int p.2] 0=some (.int p.1):=rfl
 have e7:atI [D.int q.1,D.int q.2] 1=some (.int q.2):=rfl
 have e8:=XJ (m:=3) hl h.lab (by have:=h.len;omega) (by have:=h.len;omega) s
 unfold eC
 rw [e1]
 unfold eP at e2 e3 ⊢
 simp [jX,Aj,vZ,vN,iI,Ba,e2,e3,e4,e5,e6,e7,h5,h3,e8]
theorem YX {roads:List (Int×Int)}{labels:List Str}{n:Nat}{g:List Ch}(hl:Av labels) (h1:1≤g.length) (h3:g.length≤3) (nd:g.Nodup) (h:∀c∈g,ChOk roads labels n c) (s:DS):mX [.tup (roads.map eP),eW labels,.int (n:Int),eG g] s = .ok (.bl true) s:=by
 have e1:aZ [.tup (g.map eC),.int 1,.int 3] s = .ok (.bl true) s:=by rw [iI];simp;omega
 have e2:yQ (gQ 4) (fun _=>ret true) (fun ls=>bnd ((ao (au 0) (ao (au 1) (ao (au 2) (ao (au 4) (fun _=>ret []))))) ls) (aQ 4 (jX))) (g.map eC) [.va (.tup (roads.map eP)),.va (eW labels),.va (.int (n:Int)),.va (.tup (g.map eC)),.un,.un] s = .ok (g.map fun x=>D.bl true) s:=by
  refine lX (f:=fun _=>D.bl true) eC g fun x hx=>⟨_,rfl,rfl,?_⟩
  simp [Wh hl (h x hx)]
 have e3:=xK (fun _:Ch=>true) g s
 have e4:yQ (jY 2 (cG (gQ 5) (cG (gQ 4) lY))) (fun _=>ret true) (m2 inD (au 4) (Pr (au 3) (fun _=>ret none) (fun ls=>bnd ((au 5) ls) intD))) ((g.zipIdx 0).map fun p=> .tup [.int ((p.2:Nat):Int),eC p.1]) [.va (.tup (roads.map eP)),.va (eW labels),.va (.int (n:Int)),.va (.tup (g.map eC)),.un,.un] s = .ok ((g.zipIdx 0).map fun p=>D.bl false) s:=by
  refine lX (f:=fun _=>D.bl false) _ (g.zipIdx 0) fun p hp=>⟨_,rfl,rfl,?_⟩
  obtain ⟨c,i⟩:=p
  have hi:=List.mem_zipIdx_iff_getElem?.mp hp
  have hlt:i<g.length:=(List.getElem?_eq_some_iff.mp hi).1
  have hni:c∉g.take i:=fun hm=>by
   obtain ⟨j,hj⟩:=List.mem_iff_getElem?.mp hm
   have hji:j<i:=by
    have:=(List.getElem?_eq_some_iff.mp hj).1
    rw [List.length_take] at this
    omega
   rw [List.getElem?_take_of_lt hji] at hj
   have:=(List.getElem?_inj (by omega) nd).mp (hj.trans hi.symm)
   omega
  have e5:inD (eC c) (.tup ((g.map eC).take i)) s = .ok (.bl false) s:=by
   rw [←List.map_take,aen ((h c (List.mem_of_getElem? hi)).str hl) (fun d hd=>(h d (List.mem_of_mem_take hd)).str hl)]
   simp [hni]
  simp [Rh,e5]
 have e5:=Xe (fun _:Ch×Nat=>false) (g.zipIdx 0) s
 have e7:(g.zipIdx.any fun _=>false)=false:=by rw [List.any_eq_false];simp
 rw [e7] at e5
 have e6:jB 0 (g.map eC)=(g.zipIdx 0).map fun p=> .tup [.int ((p.2:Nat):Int),eC p.1]:=by
  rw [Bf,List.zipIdx_map,List.map_map];rfl
 have hz:g.length≤16777216:=by omega
 simp at e2 e4
 unfold eG
 simp [mX,Dh,yd,wz,e1,jA,hz,sizeLine_eq,e2,e3,wH,Z5,e6,e4,e5]
theorem acr {roads:List (Int×Int)}{labels:List Str}{r:Rw}(hl:Av labels) (hz:labels.length≤1000) (h:RwOk roads labels r) (s:DS):tG [.tup (roads.map eP),eW labels,eR r] s = .ok (.bl true) s:=by
 obtain ⟨⟨rd,t⟩,gs⟩:=r
 obtain ⟨n,e1,hn,hg⟩:=h.key
 have e1:rd=(n:Int):=e1
 subst e1
 have e2:=aco hl hz hn (by exact h.top) s
 unfold eR
 cases gs with
 | none=>
  have e3:kJ isT [D.str "home",.raw (.ty "str")] s = .ok (.bl true) s:=by kernel_rfl
  simp [tG,Ce,uL,uM,vf,iI,e2,Fd,e3]
 | some gs=>
  obtain ⟨h1,h3,hg⟩:=hg gs rfl
  have e3:kJ isT [D.tup (gs.map eG),.raw (.ty "str")] s = .ok (.bl false) s:=by kernel_rfl
  have e4:aZ [.tup (gs.map eG),.int 1,.int 3] s = .ok (.bl true) s:=by rw [iI];simp;omega
  have e5:yQ (gQ 3) (fun _=>ret true) (fun ls=>bnd ((ao (au 0) (ao (au 1) (ao (m2 dJ (m2 dJ (au 2) (fun _=>ret (.int 0))) (fun _=>ret (.int 0))) (ao (au 3) (fun _=>ret []))))) ls) (aQ 4 (mX))) (gs.map eG) [.va (.tup (roads.map eP)),.va (eW labels),.va (.tup [eK ((n:Int),t),.tup (gs.map eG)]),.un] s = .ok (gs.map fun x=>D.bl true) s:=by
   refine lX (f:=fun _=>D.bl true) eG gs fun g hg'=>⟨_,rfl,rfl,?_⟩
   obtain ⟨a1,a2,a3,a4⟩:=hg g hg'
   simp [eK,YX hl a1 a2 a3 a4]
  have e6:=xK (fun _:List Ch=>true) gs s
  have hz2:gs.length≤16777216:=by omega
  simp at e5
  simp [tG,Ce,uL,uM,vf,iI,e2,Fd,e3,e4,jA,hz2,sizeLine_eq,e5,e6]
theorem S7 {call:List D→M D}{w:Str}{m:Int}{xs:List D}{s:DS}(hm:(xs.length:Int)≤m) (h:∀(i:Nat) (x:D),xs[i]?=some x→call [.tup (xs.take i),x] s = .ok (.bl true) s) :
  jr 6 3 cM call [.str w,.tup xs,.int m] s = .ok .non s:=by
 have e1:aZ [.tup xs,.int 0,.int m] s = .ok (.bl true) s:=by rw [iI];simp [hm]
 have lp:∀(k:Nat) (ys:List D),(∀(i:Nat) (x:D),ys[i]?=some x→xs[k+i]?=some x)→∀a b:Sl,∃a' b',fH (jY 2 (cG (gQ 4) (cG (gQ 5) lY))) (jH call) (jB k ys) [.va (.str w),.va (.tup xs),.va (.int m),.cl,a,b] s = .ok (.nx [.va (.str w),.va (.tup xs),.va (.int m),.cl,a',b']) s:=by
  intro k ys
  induction ys generalizing k with
  | nil=>exact fun _ a b=>⟨a,b,rfl⟩
  | cons y ys ih=>
   intro hy a b
   obtain ⟨a',b',e⟩:=ih (k+1) (fun i x hx=>by have:=hy (i+1) x (by simpa using hx);rw [←this];congr 1;omega) (.va (.int (k:Int))) (.va y)
   refine ⟨a',b',?_⟩
   have hk:=h k y (by have:=hy 0 y rfl;simpa using this)
   have eb:jH call [.va (.str w),.va (.tup xs),.va (.int m),.cl,.va (.int (k:Int)),.va y] s = .ok (.nx [.va (.str w),.va (.tup xs),.va (.int m),.cl,.va (.int (k:Int)),.va y]) s:=by
    simp [jH,qm,Jb,Rh,hk]
   rw [jB,fH]
   simp only [aaI,Yw,ac7,aaJ,List.length_cons,List.length_nil,Nat.zero_add,if_true,Option.bind_some,List.set_cons_succ,List.set_cons_zero]
   rw [aP eb]
   exact e
 obtain ⟨a',b',e2⟩:=lp 0 xs (fun i x hx=>by simpa using hx) .un .un
 simp [jr,Jg,cM,tU,uG,e1,wH,Z5,e2]
abbrev aal (labels:List Str):Prop:=∀s:DS,jr 6 3 cM (lamD 2 [] qH) [.str "labels",eW labels,.int 4] s = .ok .non s
structure NetOk (n:Net):Prop where
 rd:1≤n.roads.length∧n.roads.length≤10∧∀p∈n.roads,(0≤p.1∧p.1≤7)∧0≤p.2∧p.2≤7
 lb:1≤n.labels.length∧n.labels.length≤4∧Av n.labels∧aal n.labels
 rw:n.rows.length≤n.roads.length*(n.labels.length+1)∧∀r∈n.rows,RwOk n.roads n.labels r
 asc:∀(i:Nat) (r q:Rw),n.rows[i]?=some r→n.rows[i+1]?=some q→dataLt (pK r.1) (pK q.1)=true
 nd:(n.rows.map (·.1)).Nodup
theorem JH {roads:List (Int×Int)}{labels:List Str}{n:Nat}(hl:Av labels):∀{gs:List (List Ch)},(∀g∈gs,∀c∈g,ChOk roads labels n c)→PyData.canLayAll0 (gs.map pG)=true∧PyData.depthAll (gs.map pG)≤3
 | [],_=>⟨rfl,by simp [PyData.depthAll]⟩
 | g::gs,h=>by
  obtain ⟨h1,h2⟩:=JH hl (gs:=gs) fun g hg=>h g (List.mem_cons_of_mem _ hg)
  have a:=wD (g:=g) fun c hc=>(h g List.mem_cons_self c hc).str hl
  have b:=qI g
  rw [List.map_cons,PyData.canLayAll0,PyData.depthAll,h1]
  unfold pG at h2 ⊢
  rw [PyData.canLay0,PyData.depth,a]
  exact ⟨rfl,by omega⟩
theorem Vy {roads:List (Int×Int)}{labels:List Str}{r:Rw}(hl:Av labels) (h:RwOk roads labels r):PyData.canLay0 (pR r)=true∧(pR r).depth≤5:=by
 obtain ⟨⟨rd,t⟩,gs⟩:=r
 obtain ⟨n,e1,hn,hg⟩:=h.key
 have hs:PyData.strOk t=true:=by
  rcases h.top with h | h
  ·exact hl t h
  ·rw [show t = "" from h];decide +kernel
 have k1:PyData.canLay0 (pK (rd,t))=true∧(pK (rd,t)).depth=1:=by
  unfold pK
  rw [PyData.canLay0,PyData.canLayAll0,PyData.canLayAll0,PyData.canLayAll0,PyData.canLay0,PyData.canLay0,hs]
  exact ⟨rfl,rfl⟩
 have k2:PyData.canLay0 (Pq gs)=true∧(Pq gs).depth≤4:=by
  cases gs with
  | none=>exact ⟨by decide +kernel,by decide +kernel⟩
  | some gs=>
   obtain ⟨_,_,hg⟩:=hg gs rfl
   obtain ⟨a,b⟩:=JH hl (gs:=gs) fun g h'=>(hg g h').2.2.2
   unfold Pq
   rw [PyData.canLay0,PyData.depth]
   exact ⟨a,by omega⟩
 unfold pR
 rw [PyData.canLay0,PyData.canLayAll0,PyData.canLayAll0,PyData.canLayAll0,PyData.depth,PyData.depthAll,PyData.depthAll,PyData.depthAll,k1.1,k1.2,k2.1]
 exact ⟨rfl,by have:=k2.2;show max 1 (max (Pq gs).depth 0)+1≤5;omega⟩
theorem Jo {roads:List (Int×Int)}{labels:List Str}(hl:Av labels):∀{rs:List Rw},(∀r∈rs,RwOk roads labels r)→PyData.canLayAll0 (rs.map pR)=true∧PyData.depthAll (rs.map pR)≤5
 | [],_=>⟨rfl,by simp [PyData.depthAll]⟩
 | r::rs,h=>by
  obtain ⟨h1,h2⟩:=Jo hl (rs:=rs) fun g hg=>h g (List.mem_cons_of_mem _ hg)
  obtain ⟨a,b⟩:=Vy hl (h r List.mem_cons_self)
  rw [List.map_cons,PyData.canLayAll0,PyData.depthAll,h1,a]
  exact ⟨rfl,by omega⟩
theorem eq_nil {roads:List (Int×Int)}{labels:List Str}{rs:List Rw}(hl:Av labels) (h:∀r∈rs,RwOk roads labels r) (s:DS):v7 (.tup (rs.map eR)) (.tup []) s = .ok (.bl (decide (rs=[]))) s:=by
 obtain ⟨a,b⟩:=Jo hl h
 have e1:D.pd (.tup (rs.map eR))=some (.tuple (rs.map pR)):=nA (fU _ _ Zz rs)
 have s1:SeqAt.shaped (.tuple (rs.map pR))=true:=by
  unfold SeqAt.shaped
  rw [PyData.canLay0,a,PyData.depth]
  simp
  omega
 show K7 (D.pd (.tup (rs.map eR))) (some (PyData.tuple [])) _ s=_
 rw [e1]
 show (if SeqAt.shaped (.tuple (rs.map pR))=true∧SeqAt.shaped (.tuple [])=true then ret (D.bl (PyData.eqv (.tuple (rs.map pR)) (.tuple []))) else stk) s=_
 rw [if_pos ⟨s1,by decide +kernel⟩,PyData.eqv]
 cases rs with
 | nil=>rfl
 | cons r rs=>rfl
theorem Z4 {k q:Int×Str}(h:dataLt (pK k) (pK q)=true) (s:DS):Vq (eK k) (eK q) s = .ok (.bl true) s:=by
 have e1:D.pr (eK k)=some (pK k):=rfl
 have e2:D.pr (eK q)=some (pK q):=rfl
 unfold Vq
 rw [e1,e2]
 show (if alike (pK k) (pK q)=true∧Vs (pK k)=true∧(pK k).depth≤60 then ret (D.bl (dataLt (pK k) (pK q))) else stk) s=_
 rw [if_pos ⟨rfl,rfl,by show (1:Nat)≤60;decide⟩,h]
theorem atI_last {xs:List D}{x:D}:atI (xs++[x]) (-1)=some x:=by
 unfold atI ixN
 have h:(-1+(((xs++[x]).length:Nat):Int)).toNat=xs.length:=by simp;omega
 rw [if_neg (by omega),if_pos (by simp;omega)]
 show (xs++[x])[(-1+(((xs++[x]).length:Nat):Int)).toNat]?=some x
 rw [h]
 simp
theorem adY (r:Rw) (s:DS):dJ (eR r) (.int 0) s = .ok (eK r.1) s:=rfl
theorem abe {roads:List (Int×Int)}{labels:List Str}{rs:List Rw}(hl:Av labels) (hz:labels.length≤1000) (h:∀r∈rs,RwOk roads labels r) (asc:∀(i:Nat) (r q:Rw),rs[i]?=some r→rs[i+1]?=some q→dataLt (pK r.1) (pK q.1)=true)
  (i:Nat) (x:D) (hx:(rs.map eR)[i]?=some x) (s:DS):lamD 2 [.va (.tup (roads.map eP)),.va (eW labels)] eU [.tup ((rs.map eR).take i),x] s = .ok (.bl true) s:=by
 rw [List.getElem?_map] at hx
 obtain ⟨r,hr,rfl⟩:=Option.map_eq_some_iff.mp hx
 have e1:=acr hl hz (h r (List.mem_of_getElem? hr)) s
 have e2:=eq_nil (rs:=rs.take i) hl (fun r hr=>h r (List.mem_of_mem_take hr)) s
 rw [List.map_take] at e2
 cases i with
 | zero=>
  simp [lamD,eU,e1]
  simp at e2
  simp [e2]
 | succ i=>
  have hlt:i+1<rs.length:=(List.getElem?_eq_some_iff.mp hr).1
  obtain ⟨p,hp⟩:∃p,rs[i]?=some p:=⟨rs[i],List.getElem?_eq_getElem (by omega)⟩
  have e3:(rs.map eR).take (i+1)=(rs.map eR).take i++[eR p]:=by
   rw [List.take_add_one,List.getElem?_map,hp]
   rfl
  have e4:decide (rs.take (i+1)=[])=false:=by
   simp
   intro z
   rw [z] at hlt
   cases hlt
  rw [e4] at e2
  have e5:=Z4 (asc i p r hp hr) s
  rw [e3] at e2 ⊢
  simp [lamD,eU,e1,e2,atI_last,adY,e5]
theorem aep {i j:Int}(h0:0≤i) (h1:i≤1000) (s:DS):mF (.int i) (.int j) s = .ok (.int (i*j)) s:=by
 have h : -(2^64)<i∧i<2^64:=⟨Int.lt_of_lt_of_le (by decide +kernel) h0,Int.lt_of_le_of_lt h1 (by decide +kernel)⟩
 have e:mF (.int i) (.int j)=ret (.int (i*j)):=if_pos (Or.inl h)
 rw [e]
theorem dR {ma mb:bJ D}{f:D→D→M D}{ls:List Sl}{s s1 s2 s3:DS}{x y z:D}(h1:ma ls s = .ok x s1) (h2:mb ls s1 = .ok y s2) (h3:f x y s2 = .ok z s3):m2 f ma mb ls s = .ok z s3:=by
 unfold m2
 rw [aP h1,aP h2,h3]
theorem abG {X:bJ D}{v a b c e:D}{s:DS}(h:X [.va a,.va b,.va c,.va e] s = .ok v s) (h2:jr 6 3 cM (lamD 2 [.va b,.va c] eU) [.str "rows",e,v] s = .ok .non s) :
  (fun ls=>bnd ((fun ls=>bnd ((ao (fun _=>ret (.str "rows")) (ao (au 3) (ao X (fun _=>ret [])))) ls) (jr 6 3 cM (lamD 2 (gJ [(1,"roads"),(2,"labels")] ls) eU))) ls) fun _=>ret (Fl.nx ls)) [.va a,.va b,.va c,.va e] s = .ok (.nx [.va a,.va b,.va c,.va e]) s:=by
 simp [gJ,Zg,h,h2]
theorem Mp {n:Net}(h:NetOk n) (s:DS):bY [eN n] s = .ok (eN n) s:=by
 obtain ⟨roads,labels,rows⟩:=n
 obtain ⟨⟨a1,a2,a3⟩,⟨b1,b2,b3,b4⟩,⟨c1,c2⟩,asc,_⟩:=h
 dsimp only at a1 a2 a3 b1 b2 b3 b4 c1 c2 asc
 have e1:aZ [.tup (roads.map eP),.int 1,.int 10] s = .ok (.bl true) s:=by rw [iI];simp;omega
 have e2:aZ [eW labels,.int 1,.int 4] s = .ok (.bl true) s:=by unfold eW;rw [iI];simp;omega
 have e3:jr 6 3 cM (lamD 2 [] lF) [.str "roads",.tup (roads.map eP),.int 10] s = .ok .non s:=by
  refine S7 (by simp;omega) fun i x hx=> ?_
  rw [List.getElem?_map] at hx
  obtain ⟨p,hp,rfl⟩:=Option.map_eq_some_iff.mp hx
  simp [lamD,lF,aa3 p s (a3 p (List.mem_of_getElem? hp))]
 have e4:jr 6 3 cM (lamD 2 [.va (.tup (roads.map eP)),.va (eW labels)] eU) [.str "rows",.tup (rows.map eR),.int ((roads.length:Int)*((labels.length:Int)+1))] s = .ok .non s:=by
  refine S7 ?_ fun i x hx=>abe b3 (by omega) c2 asc i x hx s
  rw [List.length_map]
  exact_mod_cast c1
 have e5:=b4 s
 have e6:gj [eW labels] s = .ok (.int labels.length) s:=by unfold eW;rw [zG,List.length_map]
 have e7:mF (.int (roads.length:Int)) (.int ((labels.length:Int)+1)) s = .ok (.int ((roads.length:Int)*((labels.length:Int)+1))) s:=by
  exact aep (by omega) (by omega) s
 have e0:aZ [.tup [.tup (roads.map eP),eW labels,.tup (rows.map eR)],.int 3,.int 3] s = .ok (.bl true) s:=by rw [iI];rfl
 have s0:qX [.va (.tup [.tup (roads.map eP),eW labels,.tup (rows.map eR)]),.un,.un,.un] s = .ok (.nx [.va (.tup [.tup (roads.map eP),eW labels,.tup (rows.map eR)]),.un,.un,.un]) s:=by
  simp [qX,e0]
 have s1:v9 [.va (.tup [.tup (roads.map eP),eW labels,.tup (rows.map eR)]),.un,.un,.un] s = .ok (.nx [.va (.tup [.tup (roads.map eP),eW labels,.tup (rows.map eR)]),.va (.tup (roads.map eP)),.va (eW labels),.va (.tup (rows.map eR))]) s:=rfl
 have s2:qM [.va (.tup [.tup (roads.map eP),eW labels,.tup (rows.map eR)]),.va (.tup (roads.map eP)),.va (eW labels),.va (.tup (rows.map eR))] s = .ok (.nx [.va (.tup [.tup (roads.map eP),eW labels,.tup (rows.map eR)]),.va (.tup (roads.map eP)),.va (eW labels),.va (.tup (rows.map eR))]) s:=by
  simp [qM,e1]
 have s3:qR [.va (.tup [.tup (roads.map eP),eW labels,.tup (rows.map eR)]),.va (.tup (roads.map eP)),.va (eW labels),.va (.tup (rows.map eR))] s = .ok (.nx [.va (.tup [.tup (roads.map eP),eW labels,.tup (rows.map eR)]),.va (.tup (roads.map eP)),.va (eW labels),.va (.tup (rows.map eR))]) s:=by
  simp [qR,gJ,e3]
 have s4:qu [.va (.tup [.tup (roads.map eP),eW labels,.tup (rows.map eR)]),.va (.tup (roads.map eP)),.va (eW labels),.va (.tup (rows.map eR))] s = .ok (.nx [.va (.tup [.tup (roads.map eP),eW labels,.tup (rows.map eR)]),.va (.tup (roads.map eP)),.va (eW labels),.va (.tup (rows.map eR))]) s:=by
  simp [qu,e2]
 have s5:qD [.va (.tup [.tup (roads.map eP),eW labels,.tup (rows.map eR)]),.va (.tup (roads.map eP)),.va (eW labels),.va (.tup (rows.map eR))] s = .ok (.nx [.va (.tup [.tup (roads.map eP),eW labels,.tup (rows.map eR)]),.va (.tup (roads.map eP)),.va (eW labels),.va (.tup (rows.map eR))]) s:=by
  simp [qD,gJ,e5]
 have s6:yt [.va (.tup [.tup (roads.map eP),eW labels,.tup (rows.map eR)]),.va (.tup (roads.map eP)),.va (eW labels),.va (.tup (rows.map eR))] s = .ok (.nx [.va (.tup [.tup (roads.map eP),eW labels,.tup (rows.map eR)]),.va (.tup (roads.map eP)),.va (eW labels),.va (.tup (rows.map eR))]) s:=by
  have ea:=dR (f:=mF) (ma:=fun ls=>bnd ((ao (au 1) (fun _=>ret [])) ls) gj) (mb:=m2 iT (fun ls=>bnd ((ao (au 2) (fun _=>ret [])) ls) gj) (fun _=>ret (.int 1))) (ls:=[.va (.tup [.tup (roads.map eP),eW labels,.tup (rows.map eR)]),.va (.tup (roads.map eP)),.va (eW labels),.va (.tup (rows.map eR))]) (s:=s) (s1:=s) (s2:=s) (s3:=s) (x:= .int (roads.length:Int)) (y:= .int ((labels.length:Int)+1)) (by simp) (by simp [e6]) e7
  exact abG ea e4
 show bnd (wV [.va (.tup [.tup (roads.map eP),eW labels,.tup (rows.map eR)]),.un,.un,.un]) endF s=_
 unfold wV
 rw [aP (by rw [aJ s0,aJ s1,aJ s2,aJ s3,aJ s4,aJ s5,aJ s6];rfl)]
 rfl
end PV.Law
namespace PV
open PySem PySem.Spec
def G5 (c:Nat) (x:Str):Bool:=x.cps.toList.contains c
theorem split_join {c:Nat}(hc:c<256) {parts:List Str}(hne:parts≠[]) (h:∀p∈parts,G5 c p=false):Txt.split (Txt.join (SX.S [c]) parts) (SX.S [c])=parts:=by
 have ep:parts=(parts.map fun x:Str=>x.cps.toList).map SX.S:=by
  rw [List.map_map]
  conv=>lhs;rw [←List.map_id parts]
  exact List.map_congr_left fun x _=>(SX.S_tl x).symm
 have hd:∀p∈parts.map (fun x:Str=>x.cps.toList),c∉p:=fun p hp=>by
  obtain ⟨x,hx,rfl⟩:=List.mem_map.mp hp
  have:=h x hx
  unfold G5 at this
  simpa using this
 have ne:parts.map (fun x:Str=>x.cps.toList)≠[]:=fun z=>hne (List.map_eq_nil_iff.mp z)
 generalize parts.map (fun x:Str=>x.cps.toList)=cs at ep hd ne
 rw [ep,SX.join_S,SX.split_S (List.cons_ne_nil _ _) (by simpa using hc),SX.spl_join ne hd]
end PV
namespace PV.Law
open PySem PySem.W PySem.Calls PyProof.Rows L2 PV
structure DOk (am:Addr) (s:DS):Prop where
 d:PV.DOk am s
 ob:vQ s.objs.length s.objs=true
theorem WQ {am:Addr}{l:Int}{s:DS}(h:DOk am s) (hs:s.spot<1125899906842624) (h0:0<l) (hl:l<1073741824) :
  ∃r s',dU [.raw (.ref am),.int l] s = .ok (.int r) s'∧0≤r∧r<l∧DOk am s'∧s'.spot=s.spot+1:=by
 have e:dU [.raw (.ref am),.int l] s=Eb l s:=if_pos ⟨h.d.at_,h0,hl,h.d.s0,hs,h.d.cl,h.d.gl⟩
 have s0:=h.d.s0
 rw [e]
 unfold Eb
 split
 ·exact ⟨_,_,rfl,Int.emod_nonneg _ (by omega),Int.emod_lt_of_pos _ h0,⟨⟨h.d.at_,by show 0≤s.spot+1;omega,h.d.cl,by simpa using h.d.gl⟩,h.ob⟩,rfl⟩
 ·exact ⟨_,_,rfl,Int.emod_nonneg _ (by omega),Int.emod_lt_of_pos _ h0,⟨⟨h.d.at_,by show 0≤s.spot+1;omega,h.d.cl,h.d.gl⟩,h.ob⟩,rfl⟩
theorem Wp.Ik {am:Addr}{i:Nat}{ls:List Sl}{X:bJ D}{l:Int}{s:DS}{Q:D→DS→Prop}(hi:ls[i]?=some (.va (.raw (.ref am)))) (hx:X ls s = .ok (.int l) s) (h:DOk am s) (hs:s.spot<1125899906842624) (h0:0<l) (hl:l<1073741824)
  (k:∀r s',0≤r→r<l→DOk am s'→s'.spot=s.spot+1→Q (.int r) s'):Wp (PV.bnd (ao (au i) (ao X (fun _=>ret [])) ls) (aQ 2 dU) s) Q:=by
 refine PV.Wp.bnd (PV.Wp.of_eq (a:=[.raw (.ref am),.int l]) (s:=s) (by simp [hi,hx]) ?_)
 obtain ⟨r,s',e,h1,h2,h3,h4⟩:=WQ h hs h0 hl
 exact ⟨_,_,e,k r s' h1 h2 h3 h4⟩
def Vw (ws:List Str) (num:D) (j:Nat):List (Str×D):=[("words",.lst (ws.map .str)),("number",num),("at",.int (j:Int))]
section
variable {σ:DS}{i:Nat}{ws:List Str}{num:D}{j:Nat}(h:σ.objs[i]?=some (.ins aD (Vw ws num j)))
include h
theorem Fq:ji [aD] "words" (.sref i) σ = .ok (.lst (ws.map .str)) σ:=by
 unfold ji
 simp only [h]
 rfl
theorem R6:ji [aD] "at" (.sref i) σ = .ok (.int (j:Int)) σ:=by
 unfold ji
 simp only [h]
 rfl
theorem Uh:ji [aD] "number" (.sref i) σ = .ok num σ:=by
 unfold ji
 simp only [h]
 rfl
theorem UL:aW [.sref i] σ = .ok (.bl (decide (j=ws.length))) σ:=by
 have e1:=Fq h
 have e2:=R6 h
 show bnd (oR [.va (.sref i)]) endF σ=_
 refine ak (a:=Fl.rt (.bl (decide (j=ws.length)))) (s':=σ) ?_ rfl
 unfold oR qj
 refine ak (a:= .bl (decide (j=ws.length))) (s':=σ) ?_ rfl
 refine dR (x:= .int (j:Int)) (y:= .int (ws.length:Int)) (s1:=σ) (s2:=σ) (ak (a:= .sref i) (s':=σ) rfl e2) ?_ ?_
 ·refine ak (a:=[.lst (ws.map .str)]) (s':=σ) (ak (a:= .lst (ws.map .str)) (s':=σ) (ak (a:= .sref i) (s':=σ) rfl e1) rfl) ?_
  show Res.ok (D.int ((ws.map D.str).length:Int)) σ=_
  rw [List.length_map]
 ·show (if SeqAt.shaped (.int (j:Int))=true∧SeqAt.shaped (.int (ws.length:Int))=true then ret (D.bl (PyData.eqv (.int (j:Int)) (.int (ws.length:Int)))) else stk) σ=_
  rw [if_pos ⟨rfl,rfl⟩]
  have he:PyData.eqv (.int (j:Int)) (.int (ws.length:Int))=decide (j=ws.length):=by
   rw [Bool.eq_iff_iff,decide_eq_true_iff]
   simp only [PyData.eqv,beq_iff_eq]
   omega
  rw [he]
end
end PV.Law
namespace PV
open PySem PySem.Spec
def JQ (c:Nat):Bool:=decide (97≤c)&&decide (c≤122)
def isW (x:Str):Bool:=decide (1≤x.length)&&decide (x.length≤8)&&x.cps.toList.all JQ
theorem Qw:(("abcdefghijklmnopqrstuvwxyz" : Str)).cps.toList=[97,98,99,100,101,102,103,104,105,106,107,108,109,110,111,112,113,114,115,116,117,118,119,120,121,122]:=by decide +kernel
theorem QX (c:Nat):(!(Builtin.Str.occurrences ("abcdefghijklmnopqrstuvwxyz" : Str) ⟨#[c]⟩ 0 ("abcdefghijklmnopqrstuvwxyz" : Str).length 1).isEmpty)=JQ c:=by
 rw [StrLaws.found_one,Qw,Bool.eq_iff_iff,decide_eq_true_iff]
 unfold JQ
 rw [Bool.and_eq_true,decide_eq_true_iff,decide_eq_true_iff]
 simp only [List.mem_cons,List.not_mem_nil,or_false]
 omega
theorem Tz:(("0123456789" : Str)).cps.toList=[48,49,50,51,52,53,54,55,56,57]:=by decide +kernel
def pA (x:Str):Prop:=PyData.strOk x=true
instance (x:Str):Decidable (pA x):=inferInstanceAs (Decidable (_=_))
theorem rJ {x:Str}:pA x↔∀c∈x.cps.toList,c<1114112:=by
 unfold pA PyData.strOk
 rw [←Array.all_toList,List.all_eq_true]
 simp only [decide_eq_true_eq]
theorem sE {x:Str}(h:isW x=true):pA x:=by
 rw [rJ]
 unfold isW at h
 rw [Bool.and_eq_true] at h
 intro c hc
 have:=List.all_eq_true.mp h.2 c hc
 unfold JQ at this
 rw [Bool.and_eq_true,decide_eq_true_iff,decide_eq_true_iff] at this
 omega
abbrev Rd (α:Type):=List Str→Option α×List Str
def jW (S:List Str):Rd Str
 | w::r=>if w∈S then (some w,r) else (none,w::r)
 | []=>(none,[])
def tK:Rd Str
 | w::r=>if isW w=true then (some w,r) else (none,w::r)
 | []=>(none,[])
theorem dW (S:List Str) (w:Str) (r:List Str):jW S (w::r)=if w∈S then (some w,r) else (none,w::r):=rfl
theorem pZ (w:Str) (r:List Str):tK (w::r)=if isW w=true then (some w,r) else (none,w::r):=rfl
def digs:List Str:=["0","1","2","3","4","5","6","7","8","9"]
def cU (w:Str):Int:=match w.cps.toList with
 | [c]=>(c:Int)-48
 | _=>0
def cC:Rd Ch:=fun r=>match jW digs r with
 | (some w,r1)=>(some (cU w,r1.takeWhile isW),r1.dropWhile isW)
 | (none,r1)=>(none,r1)
def pOver:Rd Unit:=fun r=>match r with
 | []=>(some (),[])
 | w::r=>(none,w::r)
def nR:Rd Ch:=fun r=>match cC r with
 | (some c,r1)=>(match pOver r1 with
  | (some _,r2)=>(some c,r2)
  | (none,r2)=>(none,r2))
 | (none,r1)=>(none,r1)
def Pn:Nat→List (List Ch)→List Ch→Rd (List (List Ch))
 | _,gs,g,[]=>(some (gs++[g]),[])
 | 0,_,_,r=>(none,r)
 | n+1,gs,g,w::r=>if w = "/" then (match cC r with
   | (some c,r1)=>Pn n (gs++[g]) [c] r1
   | (none,r1)=>(none,r1))
  else if w = "," then (match cC r with
   | (some c,r1)=>Pn n gs (g++[c]) r1
   | (none,r1)=>(none,r1))
  else (none,w::r)
theorem rH (n:Nat) (gs:List (List Ch)) (g:List Ch) (w:Str) (r:List Str):Pn (n+1) gs g (w::r)=if w = "/" then (match cC r with
   | (some c,r1)=>Pn n (gs++[g]) [c] r1
   | (none,r1)=>(none,r1))
  else if w = "," then (match cC r with
   | (some c,r1)=>Pn n gs (g++[c]) r1
   | (none,r1)=>(none,r1))
  else (none,w::r):=rfl
theorem Xh (n:Nat) (gs:List (List Ch)) (g:List Ch):Pn n gs g []=(some (gs++[g]),[]):=by cases n<;>rfl
def pY:Rd (List (List Ch)):=fun r=>match cC r with
 | (some c,r1)=>Pn r1.length [] [c] r1
 | (none,r1)=>(none,r1)
def CP:Rd (Int×Str):=fun r=>match jW digs r with
 | (some w,r1)=>(match jW ["-"] r1 with
  | (some _,r2)=>(some (cU w,""),r2)
  | (none,_)=>(match tK r1 with
   | (some t,r2)=>(some (cU w,t),r2)
   | (none,r2)=>(none,r2)))
 | (none,r1)=>(none,r1)
def Nr:Rd Rw:=fun r=>match CP r with
 | (some k,r1)=>(match jW ["home",">"] r1 with
  | (some w,r2)=>if w = "home" then (match pOver r2 with
    | (some _,r3)=>(some (k,none),r3)
    | (none,r3)=>(none,r3))
   else (match pY r2 with
    | (some gs,r3)=>(some (k,some gs),r3)
    | (none,r3)=>(none,r3))
  | (none,r2)=>(none,r2))
 | (none,r1)=>(none,r1)
def uU:Rd (List Str):=fun r=>match jW ["labels"] r with
 | (some _,r1)=>(match tK r1 with
  | (some x,r2)=>(match pOver (r2.dropWhile isW) with
   | (some _,r3)=>(some (x::r2.takeWhile isW),r3)
   | (none,r3)=>(none,r3))
  | (none,r2)=>(none,r2))
 | (none,r1)=>(none,r1)
def RB:Rd (Int×Int):=fun r=>match jW digs r with
 | (some a,r1)=>(match jW digs r1 with
  | (some b,r2)=>(match pOver r2 with
   | (some _,r3)=>(some (cU a,cU b),r3)
   | (none,r3)=>(none,r3))
  | (none,r2)=>(none,r2))
 | (none,r1)=>(none,r1)
def yN (roads:List (Int×Int)) (rows:List Rw):List Str:=if roads=[] then ["road"] else if rows=[] then ["road","row"] else ["row"]
def Eh (S:List Str):Rd (Sum (Int×Int) Rw):=fun r=>match jW S r with
 | (some w,r1)=>if w = "road" then (match RB r1 with
   | (some p,r2)=>(some (.inl p),r2)
   | (none,r2)=>(none,r2))
  else (match Nr r1 with
   | (some q,r2)=>(some (.inr q),r2)
   | (none,r2)=>(none,r2))
 | (none,r1)=>(none,r1)
def cI (x:Str):List Str:=Txt.split x " "
def lnOf (x:Str):List Str:=Txt.split x "\n"
def oU:Nat→List (Int×Int)→List Rw→List Str→Sum (Nat×Nat) (List (Int×Int)×List Rw)
 | _,roads,rows,[]=> .inr (roads,rows)
 | k,roads,rows,l::ls=>match Eh (yN roads rows) (cI l) with
  | (some (.inl p),_)=>oU (k+1) (roads++[p]) rows ls
  | (some (.inr q),_)=>oU (k+1) roads (rows++[q]) ls
  | (none,r)=> .inl (k,(cI l).length-r.length)
def Yh (x:Str):Sum (Nat×Nat) Net:=match lnOf x with
 | []=> .inl (0,0)
 | l::ls=>match uU (cI l) with
  | (some labels,_)=>(match oU 1 [] [] ls with
   | .inl e=> .inl e
   | .inr (roads,rows)=>if roads=[] then .inl (1,0) else .inr ⟨roads,labels,rows⟩)
  | (none,r)=> .inl (0,(cI l).length-r.length)
theorem QG (r:List Str):r.dropWhile isW <:+ r:=List.dropWhile_suffix _
theorem lW (S:List Str) (r:List Str):(jW S r).2 <:+ r:=by
 cases r with
 | nil=>exact List.suffix_refl _
 | cons w r=>
  rw [dW]
  split
  ·exact List.suffix_cons _ _
  ·exact List.suffix_refl _
theorem Mq (r:List Str):(tK r).2 <:+ r:=by
 cases r with
 | nil=>exact List.suffix_refl _
 | cons w r=>
  rw [pZ]
  split
  ·exact List.suffix_cons _ _
  ·exact List.suffix_refl _
theorem zM (r:List Str):(cC r).2 <:+ r:=by
 have h:=lW digs r
 unfold cC
 generalize jW digs r=z at h
 obtain ⟨o,r1⟩:=z
 cases o with
 | none=>exact h
 | some w=>exact (QG r1).trans h
theorem QK (r:List Str) {c:Ch}{r1:List Str}(h:cC r=(some c,r1)):r1.length<r.length:=by
 unfold cC at h
 cases r with
 | nil=>cases h
 | cons w r=>
  rw [dW] at h
  by_cases hw:w∈digs
  ·rw [if_pos hw] at h
   cases h
   have:=(QG r).length_le
   simp only [List.length_cons]
   omega
  ·rw [if_neg hw] at h
   cases h
theorem Zk (r:List Str):(CP r).2 <:+ r:=by
 have h:=lW digs r
 unfold CP
 generalize jW digs r=z at h
 obtain ⟨o,r1⟩:=z
 replace h:r1 <:+ r:=h
 cases o with
 | none=>exact h
 | some w=>
  have h2:=lW ["-"] r1
  have h3:=Mq r1
  dsimp only
  generalize jW ["-"] r1=z2 at h2
  obtain ⟨o2,r2⟩:=z2
  replace h2:r2 <:+ r1:=h2
  cases o2 with
  | some x=>exact h2.trans h
  | none=>
   dsimp only
   generalize tK r1=z3 at h3
   obtain ⟨o3,r3⟩:=z3
   replace h3:r3 <:+ r1:=h3
   cases o3<;>exact h3.trans h
theorem str_len (x:Str):x.length=x.cps.toList.length:=by
 show x.cps.size=_
 simp
theorem ada {l:List Nat}:pA (SX.S l)↔∀c∈l,c<1114112:=by rw [rJ]
theorem P0 {c:Nat}:∀{l acc:List Nat},(∀x∈acc,x<1114112)→(∀x∈l,x<1114112)→∀p∈TL.spl [c] 0 acc l,∀x∈p,x<1114112
 | [],acc,ha,_,p,hp=>by
  rw [TL.spl_nil] at hp
  rw [List.mem_singleton.mp hp]
  exact ha
 | d::l,acc,ha,hl,p,hp=>by
  unfold TL.spl at hp
  split at hp
  ·rcases List.mem_cons.mp hp with rfl | hp
   ·exact ha
   ·exact P0 (c:=c) (l:=l) (acc:=[]) (by simp) (fun x hx=>hl x (List.mem_cons_of_mem _ hx)) p hp
  ·refine P0 (c:=c) (l:=l) (acc:=acc++[d]) (fun x hx=> ?_) (fun x hx=>hl x (List.mem_cons_of_mem _ hx)) p hp
   rcases List.mem_append.mp hx with z | z
   ·exact ha x z
   ·rw [List.mem_singleton.mp z];exact hl d List.mem_cons_self
theorem Gh {c:Nat}:∀{l acc:List Nat},(TL.spl [c] 0 acc l).length≤l.length+1∧TL.spl [c] 0 acc l≠[]
 | [],acc=>by rw [TL.spl_nil];simp
 | d::l,acc=>by
  unfold TL.spl
  split
  ·have:=(Gh (c:=c) (l:=l) (acc:=[])).1
   refine ⟨?_,by simp⟩
   show (TL.spl [c] 0 [] l).length+1≤l.length+1+1
   omega
  ·have:=Gh (c:=c) (l:=l) (acc:=acc++[d])
   exact ⟨by simp only [List.length_cons];omega,this.2⟩
theorem HX {c:Nat}:∀{l acc:List Nat},∀p∈TL.spl [c] 0 acc l,p.length≤acc.length+l.length
 | [],acc,p,hp=>by
  rw [TL.spl_nil] at hp
  rw [List.mem_singleton.mp hp]
  simp
 | d::l,acc,p,hp=>by
  unfold TL.spl at hp
  split at hp
  ·rcases List.mem_cons.mp hp with rfl | hp
   ·simp
   ·have:=HX (c:=c) (l:=l) (acc:=[]) p hp
    simp at this ⊢
    omega
  ·have:=HX (c:=c) (l:=l) (acc:=acc++[d]) p hp
   simp at this ⊢
   omega
theorem Ft {c:Nat}(hc:c<256) (x:Str):Txt.split x (SX.S [c])=(TL.spl [c] 0 [] x.cps.toList).map SX.S:=by
 have e:=SX.split_S (a:=x.cps.toList) (b:=[c]) (by simp) (by simpa using hc)
 rw [SX.S_tl] at e
 exact e
theorem Mx {c:Nat}(hc:c<256) {x:Str}(h:pA x):∀w∈Txt.split x (SX.S [c]),pA w:=by
 intro w hw
 rw [Ft hc] at hw
 obtain ⟨p,hp,rfl⟩:=List.mem_map.mp hw
 rw [ada]
 exact P0 (by simp) (rJ.mp h) p hp
theorem split_len {c:Nat}(hc:c<256) (x:Str):(Txt.split x (SX.S [c])).length≤x.length+1∧Txt.split x (SX.S [c])≠[]:=by
 rw [Ft hc,str_len,List.length_map]
 have:=Gh (c:=c) (l:=x.cps.toList) (acc:=[])
 exact ⟨this.1,by simpa using this.2⟩
theorem Qx {c:Nat}(hc:c<256) {x w:Str}(h:w∈Txt.split x (SX.S [c])):w.length≤x.length:=by
 rw [Ft hc] at h
 obtain ⟨p,hp,rfl⟩:=List.mem_map.mp h
 rw [SX.S_len,str_len]
 have:=HX p hp
 simpa using this
theorem Oc:(" " : Str)=SX.S [32]:=by decide +kernel
theorem Z9:("\n" : Str)=SX.S [10]:=by decide +kernel
end PV
namespace PV
open PySem PySem.W L2
mutual
theorem uD {n m:Nat}(h:n≤m):∀(d:D),d.old n=true→d.old m=true
 | .lst xs,e=>by rw [D.old] at e ⊢;exact ug h xs e
 | .tup xs,e=>by rw [D.old] at e ⊢;exact ug h xs e
 | .qb xs,e=>by rw [D.old] at e ⊢;exact ug h xs e
 | .Ei kvs,e=>by rw [D.old] at e ⊢;exact yD h kvs e
 | .DG kvs,e=>by rw [D.old] at e ⊢;exact yC h kvs e
 | .dtn kvs,e=>by rw [D.old] at e ⊢;exact Jp h kvs e
 | .exc _ fs,e=>by rw [D.old] at e ⊢;exact Cq h fs e
 | .sref i,e=>by rw [D.old] at e ⊢;have:=of_decide_eq_true e;exact decide_eq_true (by omega)
 | .non,_=>by rw [D.old]
 | .bl _,_=>by rw [D.old]
 | .int _,_=>by rw [D.old]
 | .str _,_=>by rw [D.old]
 | .dct _,_=>by rw [D.old]
 | .raw _,_=>by rw [D.old]
 | .scr _,_=>by rw [D.old]
theorem ug {n m:Nat}(h:n≤m):∀(ds:List D),D.fK n ds=true→D.fK m ds=true
 | [],_=>by rw [D.fK]
 | d::ds,e=>by rw [D.fK,Bool.and_eq_true] at e ⊢;exact ⟨uD h d e.1,ug h ds e.2⟩
theorem yD {n m:Nat}(h:n≤m):∀(ds:List (Key×D)),D.oldK n ds=true→D.oldK m ds=true
 | [],_=>by rw [D.oldK]
 | (_,d)::ds,e=>by rw [D.oldK,Bool.and_eq_true] at e ⊢;exact ⟨uD h d e.1,yD h ds e.2⟩
theorem yC {n m:Nat}(h:n≤m):∀(ds:List (List Key×D)),D.Gk n ds=true→D.Gk m ds=true
 | [],_=>by rw [D.Gk]
 | (_,d)::ds,e=>by rw [D.Gk,Bool.and_eq_true] at e ⊢;exact ⟨uD h d e.1,yC h ds e.2⟩
theorem Jp {n m:Nat}(h:n≤m):∀(ds:List (NestedKey×D)),D.LK n ds=true→D.LK m ds=true
 | [],_=>by rw [D.LK]
 | (_,d)::ds,e=>by rw [D.LK,Bool.and_eq_true] at e ⊢;exact ⟨uD h d e.1,Jp h ds e.2⟩
theorem Cq {n m:Nat}(h:n≤m):∀(ds:List (Str×D)),D.zR n ds=true→D.zR m ds=true
 | [],_=>by rw [D.zR]
 | (_,d)::ds,e=>by rw [D.zR,Bool.and_eq_true] at e ⊢;exact ⟨uD h d e.1,Cq h ds e.2⟩
end
theorem Qy {n m:Nat}(h:n≤m):∀(t:Th),t.old n=true→t.old m=true
 | .ins _ fs,e=>Cq h fs e
 | .dT kvs,e=>yC h kvs e
 | .dK kvs,e=>yD h kvs e
 | .lst ds,e=>ug h ds e
 | .lT kvs,e=>yC h kvs e
 | .lK kvs,e=>yD h kvs e
theorem Cd {n:Nat}:∀{ts:List Th},vQ n ts=true↔∀t∈ts,t.old n=true
 | []=>⟨fun _ t h=>(nomatch h),fun _=>rfl⟩
 | t::ts=>by
  rw [vQ,Bool.and_eq_true,Cd (ts:=ts)]
  constructor
  ·rintro ⟨a,b⟩ x hx
   rcases List.mem_cons.mp hx with rfl | hx
   ·exact a
   ·exact b x hx
  ·exact fun h=>⟨h t List.mem_cons_self,fun x hx=>h x (List.mem_cons_of_mem _ hx)⟩
theorem oM {α:Type}{n:Nat}{e:α→D}(h:∀x,(e x).old n=true):∀L:List α,D.fK n (L.map e)=true
 | []=>by rw [List.map_nil,D.fK]
 | x::L=>by rw [List.map_cons,D.fK,h,oM h L];rfl
theorem mQ {α:Type}{o:List Th}{n:Nat}{e:α→D}(h:∀x,D.resv o n (e x)=e x):∀L:List α,D.dZ o n (L.map e)=L.map e
 | []=>by rw [List.map_nil,D.dZ]
 | x::L=>by rw [List.map_cons,D.dZ,h,mQ h L]
theorem call_of {n:Nat}{m:List D→M D}{ds:List D}{s:DS}{r:Res D}(e:m ds s=r) (hn:ds.length=n:=by rfl):aQ n m ds s=r:=by
 unfold aQ
 rw [if_pos hn,e]
theorem aaH {m:List D→M D}{ds:List D}{s s':DS}{d:D}(e:m ds s = .ok d s') (hr:d.resv s'.objs s.objs.length=d) (ho:d.old s.objs.length=true) (ht:s'.objs.take s.objs.length=s.objs) (hs:vQ s.objs.length s.objs=true) (hb:{ s' with objs:=s.objs}=s):Ww m ds s = .ok d s:=by
 unfold Ww zF
 rw [e]
 dsimp only
 rw [hr,ht,if_pos ⟨ho,hs⟩,hb]
end PV
namespace PV
open PySem PySem.W PySem.Calls PyProof.Rows L2
theorem Wp.own {i:Nat}{ls:List Sl}{s:DS}{ds:List D}{Q:D→DS→Prop}(h:ls[i]?=some (.ow ds)) (q:Q (.lst ds) s):Wp (iU i ls s) Q:=⟨.lst ds,s,by rw [abF h],q⟩
theorem Wp.call {n:Nat}{m:List D→M D}{ds:List D}{s:DS}{Q:D→DS→Prop}(hn:ds.length=n) (h:Wp (m ds s) Q):Wp (aQ n m ds s) Q:=by rw [ZV,if_pos hn];exact h
theorem Wp.eq {α:Type}{r:Res α}{a:α}{s:DS}(h:Wp r fun a' s'=>a'=a∧s'=s):r = .ok a s:=by
 obtain ⟨a',s',e,rfl,rfl⟩:=h
 exact e
theorem Wp.intro {α:Type}{r:Res α}{a:α}{s:DS}{Q:α→DS→Prop}(h:Q a s) (e:r = .ok a s):Wp r Q:=⟨a,s,e,h⟩
end PV
namespace PV.Law
open PySem PySem.W PySem.Calls PyProof.Rows L2 PV
def stL (σ:DS) (i:Nat) (ws:List Str) (num:D) (r:List Str):DS:=σ.put i (.ins aD (Vw ws num (ws.length-r.length)))
def liX (ws:List Str) (num:D) (r:List Str):List (Str×D):=[("word",.int ((ws.length-r.length:Nat):Int)),("line",num)]
def X4 {α:Type}(f:α→D) (σ:DS) (i:Nat) (ws:List Str) (num:D):Option α×List Str→Res D
 | (some a,r)=> .ok (f a) (stL σ i ws num r)
 | (none,r)=> .exc bF (liX ws num r) (stL σ i ws num r)
structure LnOk (σ:DS) (i:Nat) (ws r:List Str):Prop where
 i:i<σ.objs.length
 suf:r <:+ ws
 len:ws.length≤4000
 ok:∀w∈ws,pA w∧w.length≤16777216
theorem LnOk.to {σ:DS}{i:Nat}{ws r r':List Str}(h:LnOk σ i ws r) (s:r' <:+ r):LnOk σ i ws r':=⟨h.i,s.trans h.suf,h.len,h.ok⟩
def Ko {α:Type}(f:α→D) (m:D→M D) (p:Rd α):Prop:=∀(σ:DS) (i:Nat) (ws:List Str) (num:D) (r:List Str),LnOk σ i ws r→m (.sref i) (stL σ i ws num r)=X4 f σ i ws num (p r)
section
variable {σ:DS}{i:Nat}{ws r r':List Str}{num:D}{w:Str}
theorem Ay (h:i<σ.objs.length):(stL σ i ws num r).objs[i]?=some (.ins aD (Vw ws num (ws.length-r.length))):=by
 show (σ.objs.set i _)[i]?=_
 rw [List.getElem?_set_self h]
theorem abW:(stL σ i ws num r).put i (.ins aD (Vw ws num (ws.length-r'.length)))=stL σ i ws num r':=by
 unfold stL DS.put
 simp only [List.set_set]
theorem LnOk.nx (h:LnOk σ i ws (w::r)):ws.length-(w::r).length+1=ws.length-r.length:=by
 have:=h.suf.length_le
 simp only [List.length_cons] at this ⊢
 omega
theorem LnOk.get (h:LnOk σ i ws (w::r)):ws[ws.length-(w::r).length]?=some w:=by
 obtain ⟨p,e⟩:=h.suf
 have:ws.length-(w::r).length=p.length:=by rw [←e];simp
 rw [this,←e]
 simp
theorem LnOk.wd (h:LnOk σ i ws (w::r)):pA w∧w.length≤16777216:=h.ok w (List.mem_of_getElem? h.get)
theorem abb (h:LnOk σ i ws r):aW [.sref i] (stL σ i ws num r) = .ok (.bl (decide (r=[]))) (stL σ i ws num r):=by
 rw [UL (Ay h.i)]
 have:decide (ws.length-r.length=ws.length)=decide (r=[]):=by
  rw [Bool.eq_iff_iff,decide_eq_true_iff,decide_eq_true_iff,←List.length_eq_zero_iff]
  have:=h.suf.length_le
  omega
 rw [this]
theorem U7 (h:LnOk σ i ws r):d8 [.sref i] (stL σ i ws num r) = .exc bF (liX ws num r) (stL σ i ws num r):=by
 have e1:=Uh (Ay (r:=r) (ws:=ws) (num:=num) h.i)
 have e2:=R6 (Ay (r:=r) (ws:=ws) (num:=num) h.i)
 show bnd (qG [.va (.sref i)]) endF _=_
 refine aC ?_
 unfold qG rR
 refine ak (a:=[num,.int ((ws.length-r.length:Nat):Int)]) (s':=stL σ i ws num r) ?_ rfl
 refine ak (a:=num) (s':=stL σ i ws num r) (ak (a:= .sref i) (s':=stL σ i ws num r) rfl e1) ?_
 exact ak (a:=[.int ((ws.length-r.length:Nat):Int)]) (s':=stL σ i ws num r) (ak (a:= .int ((ws.length-r.length:Nat):Int)) (s':=stL σ i ws num r) (ak (a:= .sref i) (s':=stL σ i ws num r) rfl e2) rfl) rfl
theorem jJ {x:Str}{n:Nat}{m:List D→M D}{msd:M (List D)}(hx:U3 x (Vw ws num (ws.length-r.length))=none) (h:i<σ.objs.length):bM aD x n m (.sref i) msd (stL σ i ws num r)=bnd msd (fun ds=>aQ n m (.sref i::ds)) (stL σ i ws num r):=by
 unfold bM
 simp only [Ay h]
 rw [if_pos ⟨trivial,hx⟩]
theorem aaO {ls:List Sl}(h0:ls[0]?=some (.va (.sref i))) (h:LnOk σ i ws (w::r)):m2 dJ (fun ls=>bnd ((au 0) ls) (ji [aD] "words")) (fun ls=>bnd ((au 0) ls) (ji [aD] "at")) ls (stL σ i ws num (w::r)) = .ok (.str w) (stL σ i ws num (w::r)):=by
 have e1:=Fq (Ay (r:=w::r) (ws:=ws) (num:=num) h.i)
 have e2:=R6 (Ay (r:=w::r) (ws:=ws) (num:=num) h.i)
 refine dR (x:= .lst (ws.map .str)) (y:= .int ((ws.length-(w::r).length:Nat):Int)) (s1:=stL σ i ws num (w::r)) (s2:=stL σ i ws num (w::r)) (ak (a:= .sref i) (s':=stL σ i ws num (w::r)) (by rw [oZ h0]) e1) (ak (a:= .sref i) (s':=stL σ i ws num (w::r)) (by rw [oZ h0]) e2) ?_
 show oG (atI (ws.map D.str) _) _=_
 rw [oE h.get]
 rfl
theorem aam {x:Str}{s:DS}(h:x.length≤16777216):fL [.str x] s = .ok (.bl (isW x)) s:=by
 show bnd (zU [.va (.str x),.un]) endF s=_
 refine ak (a:=Fl.rt (.bl (isW x))) (s':=s) ?_ rfl
 unfold zU zq
 refine ak (a:= .bl (isW x)) (s':=s) ?_ rfl
 refine ak (a:= .bl true) (s':=s) rfl ?_
 rw [show ∀t f:M D,Pu (.bl true) t f=t from fun _ _=>rfl]
 refine ak (a:= .bl (decide (1≤x.length)&&decide (x.length≤8))) (s':=s) ?_ ?_
 ·refine ak (a:= .int 1) (s':=s) rfl ?_
  refine ak (a:= .int (x.length:Int)) (s':=s) ?_ ?_
  ·refine ak (a:=[.str x]) (s':=s) rfl ?_
   show (if x.length≤sizeLine then ret (D.int x.length) else stk:M D) s=_
   rw [if_pos (by rw [sizeLine_eq];exact h)]
  ·refine ak (a:= .bl (decide ((1:Int)≤(x.length:Int)))) (s':=s) rfl ?_
   by_cases h1:1≤x.length
   ·rw [decide_eq_true (by omega:(1:Int)≤(x.length:Int)),decide_eq_true h1]
    show Res.ok (D.bl (decide ((x.length:Int)≤8))) s=_
    have:decide ((x.length:Int)≤8)=decide (x.length≤8):=by rw [Bool.eq_iff_iff,decide_eq_true_iff,decide_eq_true_iff];omega
    rw [this]
    rfl
   ·rw [decide_eq_false (by omega:¬(1:Int)≤(x.length:Int)),decide_eq_false h1]
    rfl
 ·unfold isW
  cases hb:(decide (1≤x.length)&&decide (x.length≤8)) with
  | false=>rfl
  | true=>
   show bnd (ao (mL (qK [1] _ (gQ 1) _ _)) (fun _=>ret []) _) Et s=_
   have e:=lX (s:=s) (ls:=[.va (.str x),.un]) (mg:=gQ 1) (mt:=fun _=>ret true) (me:=m2 inD (au 1) (fun _=>ret (.str "abcdefghijklmnopqrstuvwxyz"))) (fun c:Nat=>D.str ⟨#[c]⟩) (fun c=>D.bl (JQ c)) x.cps.toList fun c hc=>⟨_,rfl,rfl,by
    refine dR (x:= .str ⟨#[c]⟩) (y:= .str "abcdefghijklmnopqrstuvwxyz") (s1:=s) (s2:=s) rfl rfl ?_
    show Res.ok (D.bl (!(Builtin.Str.occurrences ("abcdefghijklmnopqrstuvwxyz" : Str) ⟨#[c]⟩ 0 ("abcdefghijklmnopqrstuvwxyz" : Str).length 1).isEmpty)) s=_
    rw [QX]⟩
   refine ak (a:=[.lst (x.cps.toList.map fun c=>D.bl (JQ c))]) (s':=s) ?_ ?_
   ·refine ak (a:= .lst (x.cps.toList.map fun c=>D.bl (JQ c))) (s':=s) ?_ rfl
    refine ak (a:=x.cps.toList.map fun c=>D.bl (JQ c)) (s':=s) ?_ rfl
    unfold qK
    refine ak (a:=signs x) (s':=s) rfl ?_
    rw [if_pos (by unfold signs;rw [List.length_map,sizeLine_eq,←str_len];exact h)]
    exact e
   ·rw [xK]
    rfl
end
def uY (d:D) (S:List Str):Prop:=∀x:Str,pA x→∀s:DS,inG tpT (.str x) d s = .ok (.bl (decide (x∈S))) s
theorem Ih {S:List Str}(h:∀y∈S,pA y):uY (.tup (S.map .str)) S:=fun x hx s=>in_str hx h s
theorem Cr:uY (.raw (.ref dH)) digs:=fun x hx s=>by
 have h2:SeqAt.shaped (.tuple (digs.map PyData.str))=true:=G6 (by decide +kernel)
 show (if SeqAt.shaped (.str x)=true∧SeqAt.shaped (.tuple (digs.map PyData.str))=true then ret (D.bl (mH (.str x) (digs.map PyData.str))) else stk:M D) s=_
 rw [if_pos ⟨zK hx,h2⟩,CG]
section
variable {σ:DS}{i:Nat}{ws r r':List Str}{num dS:D}{w:Str}{S:List Str}
def tV (S:List Str):List Str→Bool
 | []=>false
 | w::_=>decide (w∈S)
theorem zH {ls:List Sl}(h0:ls[0]?=some (.va (.sref i))) (h:LnOk σ i ws r):bnd ((au 0) ls) (fun d=>bM aD "is_over" 1 aW d (ret [])) (stL σ i ws num r) = .ok (.bl (decide (r=[]))) (stL σ i ws num r):=by
 refine ak (a:= .sref i) (s':=stL σ i ws num r) (by rw [oZ h0]) ?_
 rw [jJ (by rfl) h.i]
 exact abb h
theorem Ar {ls:List Sl}(h0:ls[0]?=some (.va (.sref i))) (h:LnOk σ i ws r):bnd ((au 0) ls) (fun d=>bM aD "refuse" 1 d8 d (ret [])) (stL σ i ws num r) = .exc bF (liX ws num r) (stL σ i ws num r):=by
 refine ak (a:= .sref i) (s':=stL σ i ws num r) (by rw [oZ h0]) ?_
 rw [jJ (by rfl) h.i]
 exact U7 h
theorem W4 (hS:uY dS S) (h:LnOk σ i ws r):dO [.sref i,dS] (stL σ i ws num r) = .ok (.bl (tV S r)) (stL σ i ws num r):=by
 show bnd (pq [.va (.sref i),.va dS]) endF _=_
 refine ak (a:=Fl.rt (.bl (tV S r))) (s':=stL σ i ws num r) ?_ rfl
 unfold pq qL
 refine ak (a:= .bl (tV S r)) (s':=stL σ i ws num r) ?_ rfl
 refine ak (a:= .bl (!decide (r=[]))) (s':=stL σ i ws num r) ?_ ?_
 ·refine ak (a:= .bl (decide (r=[]))) (s':=stL σ i ws num r) (zH rfl h) ?_
  cases decide (r=[])<;>rfl
 ·cases r with
  | nil=>rfl
  | cons w r=>
   have:(!decide (w::r=[]))=true:=by simp
   rw [this]
   refine dR (x:= .str w) (y:=dS) (s1:=stL σ i ws num (w::r)) (s2:=stL σ i ws num (w::r)) (aaO rfl h) rfl ?_
   exact hS w h.wd.1 _
theorem Xz {ls:List Sl}(h0:ls[0]?=some (.va (.sref i))) (h:LnOk σ i ws (w::r)):JK [aD] "at" 1 (au 0) ls (stL σ i ws num (w::r)) = .ok (.nx ls) (stL σ i ws num r):=by
 unfold JK
 refine ak (a:= .sref i) (s':=stL σ i ws num (w::r)) (by rw [oZ h0]) ?_
 simp only [Ay h.i]
 rw [if_pos ⟨by decide,by show 3<1000;decide⟩]
 show Res.ok (Fl.nx ls) ((stL σ i ws num (w::r)).put i (.ins aD (Vw ws num (ws.length-(w::r).length+1))))=_
 rw [h.nx,abW]
theorem W6 {ls:List Sl}(h0:ls[0]?=some (.va (.sref i))) (h:LnOk σ i ws (w::r)):m2 dJ (fun ls=>bnd ((au 0) ls) (ji [aD] "words")) (m2 uR (fun ls=>bnd ((au 0) ls) (ji [aD] "at")) (fun _=>ret (.int 1))) ls (stL σ i ws num r) = .ok (.str w) (stL σ i ws num r):=by
 have e1:=Fq (Ay (r:=r) (ws:=ws) (num:=num) h.i)
 have e2:=R6 (Ay (r:=r) (ws:=ws) (num:=num) h.i)
 refine dR (x:= .lst (ws.map .str)) (y:= .int ((ws.length-(w::r).length:Nat):Int)) (s1:=stL σ i ws num r) (s2:=stL σ i ws num r) (ak (a:= .sref i) (s':=stL σ i ws num r) (by rw [oZ h0]) e1) ?_ ?_
 ·refine dR (x:= .int ((ws.length-r.length:Nat):Int)) (y:= .int 1) (s1:=stL σ i ws num r) (s2:=stL σ i ws num r) (ak (a:= .sref i) (s':=stL σ i ws num r) (by rw [oZ h0]) e2) rfl ?_
  have:=h.nx
  show Res.ok (D.int (((ws.length-r.length:Nat):Int)-1)) _=_
  rw [show (((ws.length-r.length:Nat):Int)-1)=((ws.length-(w::r).length:Nat):Int) by omega]
 ·show oG (atI (ws.map D.str) _) _=_
  rw [oE h.get]
  rfl
theorem Vd (hS:uY dS S):Ko D.str (fun d=>aX [d,dS]) (jW S):=fun σ i ws num r h=>by
 show bnd (qZ [.va (.sref i),.va dS]) endF _=_
 unfold qZ
 have e0:(fun ls=>bnd ((fun ls=>bnd ((au 0) ls) fun d=>bM aD "is_next" 2 (dO) d ((ao (au 1) (fun _=>ret [])) ls)) ls) cQ) [.va (.sref i),.va dS] (stL σ i ws num r) = .ok (tV S r) (stL σ i ws num r):=by
  refine ak (a:= .bl (tV S r)) (s':=stL σ i ws num r) ?_ rfl
  refine ak (a:= .sref i) (s':=stL σ i ws num r) rfl ?_
  rw [jJ (by rfl) h.i]
  exact W4 hS h
 have e1:d7 (fun ls=>bnd ((fun ls=>bnd ((au 0) ls) fun d=>bM aD "is_next" 2 (dO) d ((ao (au 1) (fun _=>ret [])) ls)) ls) cQ) [.va (.sref i),.va dS] (stL σ i ws num r) = .ok (!tV S r) (stL σ i ws num r):=ak e0 rfl
 have bad:tV S r=false→bnd (aR fP (aR (JK [aD] "at" 1 (au 0)) lG) [.va (.sref i),.va dS]) endF (stL σ i ws num r) = .exc bF (liX ws num r) (stL σ i ws num r):=fun hb=>by
  refine aC (aC ?_)
  unfold fP
  refine ak e1 ?_
  rw [hb]
  exact aC (Ar rfl h)
 cases r with
 | nil=>exact bad rfl
 | cons w r=>
  rw [dW]
  by_cases hw:w∈S
  ·rw [if_pos hw]
   refine ak (a:=Fl.rt (.str w)) (s':=stL σ i ws num r) ?_ rfl
   rw [aJ (show fP _ _ = .ok (.nx [.va (.sref i),.va dS]) (stL σ i ws num (w::r)) from by
    unfold fP
    refine ak e1 ?_
    rw [show tV S (w::r)=true from decide_eq_true hw]
    rfl)]
   rw [aJ (Xz rfl h)]
   unfold lG
   exact ak (W6 rfl h) rfl
  ·rw [if_neg hw]
   exact bad (by unfold tV;exact decide_eq_false hw)
theorem abZ:Ko D.str (fun d=>cR [d]) tK:=fun σ i ws num r h=>by
 show bnd (kW [.va (.sref i)]) endF _=_
 unfold kW
 have e0:(fun ls=>bnd ((fun ls=>bnd ((au 0) ls) fun d=>bM aD "is_over" 1 (aW) d (ret [])) ls) cQ) [.va (.sref i)] (stL σ i ws num r) = .ok (decide (r=[])) (stL σ i ws num r):=ak (zH rfl h) rfl
 cases r with
 | nil=>
  refine aC (aC ?_)
  unfold eO
  refine ak (a:=true) (s':=stL σ i ws num []) (ak e0 rfl) ?_
  exact aC (Ar rfl h)
 | cons w r=>
  have e1:d7 (fun ls=>bnd ((fun ls=>bnd ((ao (m2 dJ (fun ls=>bnd ((au 0) ls) (ji [aD] "words")) (fun ls=>bnd ((au 0) ls) (ji [aD] "at"))) (fun _=>ret [])) ls) (aQ 1 (fL))) ls) cQ) [.va (.sref i)] (stL σ i ws num (w::r)) = .ok (!isW w) (stL σ i ws num (w::r)):=by
   refine ak (a:=isW w) (s':=stL σ i ws num (w::r)) ?_ rfl
   refine ak (a:= .bl (isW w)) (s':=stL σ i ws num (w::r)) ?_ rfl
   refine ak (a:=[.str w]) (s':=stL σ i ws num (w::r)) (ak (aaO rfl h) rfl) ?_
   exact aam h.wd.2
  have e2:J5 (fun ls=>bnd ((fun ls=>bnd ((au 0) ls) fun d=>bM aD "is_over" 1 (aW) d (ret [])) ls) cQ) (d7 (fun ls=>bnd ((fun ls=>bnd ((ao (m2 dJ (fun ls=>bnd ((au 0) ls) (ji [aD] "words")) (fun ls=>bnd ((au 0) ls) (ji [aD] "at"))) (fun _=>ret [])) ls) (aQ 1 (fL))) ls) cQ)) [.va (.sref i)] (stL σ i ws num (w::r)) = .ok (!isW w) (stL σ i ws num (w::r)):=by
   refine ak e0 ?_
   rw [decide_eq_false (by simp:¬(w::r=[]))]
   exact e1
  rw [pZ]
  by_cases hw:isW w=true
  ·rw [if_pos hw]
   refine ak (a:=Fl.rt (.str w)) (s':=stL σ i ws num r) ?_ rfl
   rw [aJ (show eO _ _ = .ok (.nx [.va (.sref i)]) (stL σ i ws num (w::r)) from by
    unfold eO
    refine ak e2 ?_
    rw [hw]
    rfl)]
   rw [aJ (Xz rfl h)]
   unfold oF
   exact ak (W6 rfl h) rfl
  ·rw [if_neg hw]
   refine aC (aC ?_)
   unfold eO
   refine ak e2 ?_
   rw [show isW w=false by simpa using hw]
   exact aC (Ar rfl h)
end
section
variable {σ:DS}{i:Nat}{ws r r':List Str}{num dS:D}{w:Str}{S:List Str}{α:Type}{f:α→D}{a:α}
theorem Qu {ls:List Sl}(h0:ls[0]?=some (.va (.sref i))) (h:LnOk σ i ws r):bnd ((au 0) ls) (fun d=>bM aD "next_word" 1 cR d (ret [])) (stL σ i ws num r)=X4 D.str σ i ws num (tK r):=by
 refine ak (a:= .sref i) (s':=stL σ i ws num r) (by rw [oZ h0]) ?_
 rw [jJ (by rfl) h.i]
 exact abZ σ i ws num r h
theorem JT {ls:List Sl}{ms:bJ (List D)}(hS:uY dS S) (h0:ls[0]?=some (.va (.sref i))) (hm:∀s,ms ls s = .ok [dS] s) (h:LnOk σ i ws r):bnd ((au 0) ls) (fun d=>bM aD "one_of" 2 aX d (ms ls)) (stL σ i ws num r)=X4 D.str σ i ws num (jW S r):=by
 refine ak (a:= .sref i) (s':=stL σ i ws num r) (by rw [oZ h0]) ?_
 rw [jJ (by rfl) h.i]
 refine ak (a:=[dS]) (s':=stL σ i ws num r) (hm _) ?_
 exact Vd hS σ i ws num r h
theorem OD:∀(n:Nat) (r acc:List Str),r.length<n→acc.length+r.length≤4000→LnOk σ i ws r →
  fW (Zo (d7 (fun ls=>bnd ((fun ls=>bnd ((au 0) ls) fun d=>bM aD "is_over" 1 (aW) d (ret [])) ls) cQ)) (fun ls=>bnd ((fun ls=>bnd ((ao (m2 dJ (fun ls=>bnd ((au 0) ls) (ji [aD] "words")) (fun ls=>bnd ((au 0) ls) (ji [aD] "at"))) (fun _=>ret [])) ls) (aQ 1 (fL))) ls) cQ)) ig n [.va (.sref i),.ow (acc.map .str)] (stL σ i ws num r) =
   .ok (.nx [.va (.sref i),.ow ((acc++r.takeWhile isW).map .str)]) (stL σ i ws num (r.dropWhile isW))
 | 0,r,acc,hn,_,_=>by omega
 | n+1,[],acc,hn,hl,h=>by
  unfold fW
  have e0:d7 (fun ls=>bnd ((fun ls=>bnd ((au 0) ls) fun d=>bM aD "is_over" 1 (aW) d (ret [])) ls) cQ) [.va (.sref i),.ow (acc.map .str)] (stL σ i ws num []) = .ok false (stL σ i ws num []):=ak (ak (zH rfl h) rfl) rfl
  refine ak (a:=false) (s':=stL σ i ws num []) (ak e0 rfl) ?_
  rw [List.takeWhile_nil,List.append_nil]
  rfl
 | n+1,w::r,acc,hn,hl,h=>by
  unfold fW
  have e0:d7 (fun ls=>bnd ((fun ls=>bnd ((au 0) ls) fun d=>bM aD "is_over" 1 (aW) d (ret [])) ls) cQ) [.va (.sref i),.ow (acc.map .str)] (stL σ i ws num (w::r)) = .ok true (stL σ i ws num (w::r)):=by
   refine ak (ak (zH rfl h) rfl) ?_
   rw [decide_eq_false (by simp:¬(w::r=[]))]
   rfl
  have e1:(fun ls=>bnd ((fun ls=>bnd ((ao (m2 dJ (fun ls=>bnd ((au 0) ls) (ji [aD] "words")) (fun ls=>bnd ((au 0) ls) (ji [aD] "at"))) (fun _=>ret [])) ls) (aQ 1 (fL))) ls) cQ) [.va (.sref i),.ow (acc.map .str)] (stL σ i ws num (w::r)) = .ok (isW w) (stL σ i ws num (w::r)):=by
   refine ak (a:= .bl (isW w)) (s':=stL σ i ws num (w::r)) ?_ rfl
   refine ak (a:=[.str w]) (s':=stL σ i ws num (w::r)) (ak (aaO rfl h) rfl) ?_
   exact aam h.wd.2
  refine ak (a:=isW w) (s':=stL σ i ws num (w::r)) (ak e0 e1) ?_
  cases hw:isW w with
  | false=>
   rw [List.takeWhile_cons_of_neg (by rw [hw];decide),List.dropWhile_cons_of_neg (by rw [hw];decide),List.append_nil]
   rfl
  | true=>
   rw [List.takeWhile_cons_of_pos hw,List.dropWhile_cons_of_pos hw]
   have hr:LnOk σ i ws r:=h.to (List.suffix_cons _ _)
   simp only [List.length_cons] at hn hl
   have ih:=OD n r (acc++[w]) (by omega) (by simp;omega) hr
   rw [List.append_assoc] at ih
   refine ak (a:=Fl.nx [.va (.sref i),.ow ((acc++[w]).map .str)]) (s':=stL σ i ws num r) ?_ ih
   unfold ig ju jC
   have ep:tK (w::r)=(some w,r):=by rw [pZ,if_pos hw]
   show bnd _ _ _=_
   refine ak (a:= .str w) (s':=stL σ i ws num r) ?_ ?_
   ·have:=Qu (num:=num) (ls:=[.va (.sref i),.ow (acc.map .str)]) rfl h
    rw [ep] at this
    exact this
   ·rw [if_pos (by rw [List.length_map,sizeLine_eq];omega)]
    rw [List.map_append]
    rfl
theorem abq (h:LnOk σ i ws r):dB [.sref i] (stL σ i ws num r) = .ok (eW (r.takeWhile isW)) (stL σ i ws num (r.dropWhile isW)):=by
 show bnd (jm [.va (.sref i),.un]) endF _=_
 refine ak (a:=Fl.rt (eW (r.takeWhile isW))) (s':=stL σ i ws num (r.dropWhile isW)) ?_ rfl
 unfold jm
 rw [aJ (show lM _ _ = .ok (.nx [.va (.sref i),.ow (([]:List Str).map .str)]) (stL σ i ws num r) from rfl)]
 have hl:=h.suf.length_le
 have hn:=h.len
 have e:=OD (num:=num) (σ:=σ) (i:=i) (ws:=ws) 5000 r [] (by omega) (by simp;omega) h
 rw [aJ (show lN _ _=_ from e)]
 rfl
theorem V4 {ls:List Sl}(h0:ls[0]?=some (.va (.sref i))) (h:LnOk σ i ws r):bnd ((au 0) ls) (fun d=>bM aD "next_labels" 1 dB d (ret [])) (stL σ i ws num r) = .ok (eW (r.takeWhile isW)) (stL σ i ws num (r.dropWhile isW)):=by
 refine ak (a:= .sref i) (s':=stL σ i ws num r) (by rw [oZ h0]) ?_
 rw [jJ (by rfl) h.i]
 exact abq h
theorem Ax {w:Str}(h:w∈digs) (s:DS):gR [.str w] s = .ok (.int (cU w)) s:=by
 simp only [digs,List.mem_cons,List.not_mem_nil,or_false] at h
 rcases h with rfl | rfl | rfl | rfl | rfl | rfl | rfl | rfl | rfl | rfl<;>kernel_rfl
theorem yF {S:List Str}{r r1:List Str}{w:Str}(h:jW S r=(some w,r1)):w∈S:=by
 cases r with
 | nil=>cases h
 | cons x r=>
  rw [dW] at h
  by_cases hx:x∈S
  ·rw [if_pos hx] at h;cases h;exact hx
  ·rw [if_neg hx] at h;cases h
theorem acI:Ko eC (fun d=>bZ [d]) cC:=fun σ i ws num r h=>by
 show bnd (jo [.va (.sref i),.un]) endF _=_
 unfold jo cC
 have e:=JT (num:=num) (ls:=[.va (.sref i),.un]) (ms:=ao (fun _=>ret (.raw (.ref dH))) (fun _=>ret [])) Cr rfl (fun _=>rfl) h
 have hs:=lW digs r
 cases ep:jW digs r with
 | mk o r1=>
  rw [ep] at e hs
  cases o with
  | none=>
   refine aC (aC ?_)
   unfold eZ
   exact aC (aC (aC e))
  | some w=>
   have h1:=h.to hs
   refine ak (a:=Fl.rt (eC (cU w,r1.takeWhile isW))) (s':=stL σ i ws num (r1.dropWhile isW)) ?_ rfl
   rw [aJ (show eZ _ _ = .ok (.nx [.va (.sref i),.va (.int (cU w))]) (stL σ i ws num r1) from by
    unfold eZ
    refine ak (a:= .int (cU w)) (s':=stL σ i ws num r1) ?_ rfl
    exact ak (a:=[.str w]) (s':=stL σ i ws num r1) (ak e rfl) (Ax (yF ep) _))]
   unfold kZ
   refine ak (a:=eC (cU w,r1.takeWhile isW)) (s':=stL σ i ws num (r1.dropWhile isW)) ?_ rfl
   refine ak (a:=[.int (cU w),eW (r1.takeWhile isW)]) (s':=stL σ i ws num (r1.dropWhile isW)) ?_ rfl
   refine ak (a:= .int (cU w)) (s':=stL σ i ws num r1) rfl ?_
   refine ak (a:=[eW (r1.takeWhile isW)]) (s':=stL σ i ws num (r1.dropWhile isW)) ?_ rfl
   exact ak (V4 rfl h1) rfl
theorem Xv:Ko (fun _:Unit=>D.non) (fun d=>bR [d]) pOver:=fun σ i ws num r h=>by
 show bnd (kE [.va (.sref i)]) endF _=_
 unfold kE oO
 have e0:d7 (fun ls=>bnd ((fun ls=>bnd ((au 0) ls) fun d=>bM aD "is_over" 1 (aW) d (ret [])) ls) cQ) [.va (.sref i)] (stL σ i ws num r) = .ok (!decide (r=[])) (stL σ i ws num r):=ak (ak (zH rfl h) rfl) rfl
 cases r with
 | nil=>exact ak (ak e0 rfl) rfl
 | cons w r=>
  refine aC (ak e0 ?_)
  rw [decide_eq_false (by simp:¬(w::r=[]))]
  exact aC (Ar rfl h)
theorem Gq {ls:List Sl}(h0:ls[0]?=some (.va (.sref i))) (h:LnOk σ i ws r):bnd ((au 0) ls) (fun d=>bM aD "next_choice" 1 bZ d (ret [])) (stL σ i ws num r)=X4 eC σ i ws num (cC r):=by
 refine ak (a:= .sref i) (s':=stL σ i ws num r) (by rw [oZ h0]) ?_
 rw [jJ (by rfl) h.i]
 exact acI σ i ws num r h
theorem Py {ls:List Sl}(h0:ls[0]?=some (.va (.sref i))) (h:LnOk σ i ws r):bnd ((au 0) ls) (fun d=>bM aD "need_over" 1 bR d (ret [])) (stL σ i ws num r)=X4 (fun _:Unit=>D.non) σ i ws num (pOver r):=by
 refine ak (a:= .sref i) (s':=stL σ i ws num r) (by rw [oZ h0]) ?_
 rw [jJ (by rfl) h.i]
 exact Xv σ i ws num r h
theorem Qa {x:Str}(hx:x.length≤16777000) (s:DS):Bm aD 3 dh [.str x,num] s = .ok (.sref s.objs.length) (stL (s.push (.ins aD [])) s.objs.length (cI x) num (cI x)):=by
 unfold Bm
 rw [if_pos (by rfl:[D.str x,num].length+1=3)]
 have hi:s.objs.length<(s.push (.ins aD [])).objs.length:=by show _<(s.objs++[_]).length;simp
 have g0:(s.push (.ins aD [])).objs[s.objs.length]?=some (.ins aD []):=by show (s.objs++[_])[s.objs.length]?=_;simp
 have e:dh [.sref s.objs.length,.str x,num] (s.push (.ins aD [])) = .ok .non (stL (s.push (.ins aD [])) s.objs.length (cI x) num (cI x)):=by
  show bnd (m9 [.va (.sref s.objs.length),.va (.str x),.va num]) endF _=_
  refine ak (a:=Fl.nx [.va (.sref s.objs.length),.va (.str x),.va num]) ?_ rfl
  unfold m9
  have hput:∀(f:Str) (mv:bJ D) (d:D) (fs:List (Str×D)) (u:DS),u.objs[s.objs.length]?=some (.ins aD fs)→fs.length<1000→mv [.va (.sref s.objs.length),.va (.str x),.va num] u = .ok d u →
    Kf [aD] f mv (au 0) [.va (.sref s.objs.length),.va (.str x),.va num] u = .ok (.nx [.va (.sref s.objs.length),.va (.str x),.va num]) (u.put s.objs.length (.ins aD (Jr f d fs))):=fun f mv d fs u hu hl hv=>by
   unfold Kf
   refine ak hv ?_
   refine ak (a:= .sref s.objs.length) (s':=u) rfl ?_
   simp only [hu]
   rw [if_pos ⟨by decide,hl⟩]
  have g:∀(t:Th),((s.push (.ins aD [])).put s.objs.length t).objs[s.objs.length]?=some t:=fun t=>by
   show ((s.push (.ins aD [])).objs.set _ t)[_]?=_
   rw [List.getElem?_set_self hi]
  have pp:∀(t t':Th),((s.push (.ins aD [])).put s.objs.length t).put s.objs.length t'=(s.push (.ins aD [])).put s.objs.length t':=fun t t'=>by
   unfold DS.put
   simp only [List.set_set]
  rw [aJ (show pB _ _=_ from hput "words" _ (.lst ((cI x).map .str)) [] _ g0 (by decide) (by
   refine ak (a:=(cI x).map .str) (s':=s.push (.ins aD [])) ?_ rfl
   refine ak (a:= .str x) (s':=s.push (.ins aD [])) rfl ?_
   refine ak (a:= .str " ") (s':=s.push (.ins aD [])) rfl ?_
   show (if ((" " : Str).length==0)=false∧x.length+2≤sizeLine then ret ((Txt.split x " ").map .str) else stk:M (List D)) _=_
   rw [if_pos ⟨by decide +kernel,by rw [sizeLine_eq];omega⟩]
   rfl))]
  rw [aJ (hput "number" _ num _ _ (g _) (by show 1<1000;decide) rfl)]
  rw [pp]
  rw [hput "at" _ (.int 0) _ _ (g _) (by show 2<1000;decide) rfl,pp]
  unfold stL
  rw [Nat.sub_self]
  rfl
 rw [e]
theorem Ku {x:Str}(hx:pA x) (hl:x.length≤3990) (s:DS):LnOk (s.push (.ins aD [])) s.objs.length (cI x) (cI x):=by
 unfold cI
 rw [Oc]
 have h1:=(split_len (c:=32) (by decide) x).1
 refine ⟨by show _<(s.objs++[_]).length;simp,List.suffix_refl _,by omega,fun w hw=>⟨Mx (c:=32) (by decide) hx w hw,?_⟩⟩
 have:=Qx (c:=32) (by decide) hw
 omega
end
def Rv (l w:List Str):Bool:=w.all fun x=>decide (x∈l)
theorem Tf {w l:List Str}{m:Int}(hl:∀y∈l,PyData.strOk y=true) (hw:∀x∈w,PyData.strOk x=true) (hm:(w.length:Int)≤m) (hz:w.length≤16777216) (s:DS):fj [eW l,eW w,.int m] s = .ok (.bl (Rv l w)) s:=by
 have e1:aZ [eW w,.int 0,.int m] s = .ok (.bl true) s:=by unfold eW;rw [iI];simp [hm]
 have e2:yQ (gQ 3) (fun _=>ret true) (fun ls=>bnd ((ao (au 0) (ao (au 3) (fun _=>ret []))) ls) (aQ 2 (gH))) (w.map D.str) [.va (eW l),.va (eW w),.va (.int m),.un] s = .ok (w.map fun x=>D.bl (decide (x∈l))) s:=by
  refine lX (f:=fun x=>D.bl (decide (x∈l))) D.str w fun x hx=>⟨_,rfl,rfl,?_⟩
  simp [Lr (hw x hx) hl]
 have e3:=xK (fun x:Str=>decide (x∈l)) w s
 have e4:tZ (eW w) s = .ok (w.map D.str) s:=rfl
 simp at e2
 simp [fj,sX,mY,e1,jA,e4,hz,sizeLine_eq,e2,e3]
 rfl
def Rp (n:Net) (c:Ch):Bool:=decide (c.1<(n.roads.length:Int))&&Rv n.labels c.2
theorem RP {n:Net}(h:NetOk n) {c:Ch}(h0:0≤c.1) (hw:∀x∈c.2,PyData.strOk x=true) (hm:c.2.length≤3000) (s:DS):dN [eN n,eC c] s = .ok (.bl (Rp n c)) s:=by
 obtain ⟨a,w⟩:=c
 have e1:aZ [eC (a,w),.int 2,.int 2] s = .ok (.bl true) s:=by unfold eC;rw [iI];rfl
 have e2:=Ba a 0 ((n.roads.length:Int)-1) s
 have e3:=Tf (m:=3000) h.lb.2.2.1 hw (by show (w.length:Int)≤3000;have:w.length≤3000:=hm;omega) (by show w.length≤16777216;have:w.length≤3000:=hm;omega) s
 have e4:(decide (0≤a)&&decide (a≤(n.roads.length:Int)-1))=decide (a<(n.roads.length:Int)):=by
  have:0≤a:=h0
  rw [Bool.eq_iff_iff,Bool.and_eq_true,decide_eq_true_iff,decide_eq_true_iff,decide_eq_true_iff]
  omega
 rw [e4] at e2
 have e5:(m2 uR (fun ls=>bnd ((ao (m2 dJ (au 0) (fun _=>ret (.int 0))) (fun _=>ret [])) ls) gj) (fun _=>ret (.int 1))) [.va (eN n),.va (eC (a,w))] s = .ok (.int ((n.roads.length:Int)-1)) s:=by
  refine dR (x:= .int (n.roads.length:Int)) (y:= .int 1) (s1:=s) (s2:=s) ?_ rfl rfl
  exact ak (a:=[.tup (n.roads.map eP)]) (s':=s) rfl (by rw [zG,List.length_map])
 show bnd (fM [.va (eN n),.va (eC (a,w))]) endF s=_
 have t1:d7 (fun ls=>bnd ((fun ls=>bnd ((ao (au 1) (ao (fun _=>ret (.int 2)) (ao (fun _=>ret (.int 2)) (fun _=>ret [])))) ls) (aQ 3 (aZ))) ls) cQ) [.va (eN n),.va (eC (a,w))] s = .ok false s:=ak (a:=true) (ak (a:= .bl true) (ak (a:=[eC (a,w),.int 2,.int 2]) (s':=s) rfl (call_of e1)) rfl) rfl
 have t2:d7 (fun ls=>bnd ((fun ls=>bnd ((ao (m2 dJ (au 1) (fun _=>ret (.int 0))) (ao (fun _=>ret (.int 0)) (ao (m2 uR (fun ls=>bnd ((ao (m2 dJ (au 0) (fun _=>ret (.int 0))) (fun _=>ret [])) ls) gj) (fun _=>ret (.int 1))) (fun _=>ret [])))) ls) (aQ 3 (cY))) ls) cQ) [.va (eN n),.va (eC (a,w))] s = .ok (!decide (a<(n.roads.length:Int))) s:=by
  refine ak (a:=decide (a<(n.roads.length:Int))) (s':=s) ?_ rfl
  refine ak (a:= .bl (decide (a<(n.roads.length:Int)))) (s':=s) ?_ rfl
  refine ak (a:=[.int a,.int 0,.int ((n.roads.length:Int)-1)]) (s':=s) ?_ (call_of e2)
  refine ak (a:= .int a) (s':=s) rfl ?_
  refine ak (a:=[.int 0,.int ((n.roads.length:Int)-1)]) (s':=s) ?_ rfl
  refine ak (a:= .int 0) (s':=s) rfl ?_
  refine ak (a:=[.int ((n.roads.length:Int)-1)]) (s':=s) ?_ rfl
  exact ak e5 rfl
 unfold Rp
 by_cases ha:a<(n.roads.length:Int)
 ·rw [decide_eq_true ha] at t2 ⊢
  refine ak (a:=Fl.rt (.bl (Rv n.labels w))) (s':=s) ?_ rfl
  unfold fM
  rw [aJ (show dY _ s = .ok (.nx [.va (eN n),.va (eC (a,w))]) s from by
   unfold dY
   exact ak (a:=false) (s':=s) (ak t1 t2) rfl)]
  unfold jM
  refine ak (a:= .bl (Rv n.labels w)) (s':=s) ?_ rfl
  exact ak (a:=[eW n.labels,eW w,.int 3000]) (s':=s) rfl e3
 ·rw [decide_eq_false ha] at t2 ⊢
  refine ak (a:=Fl.rt (.bl false)) (s':=s) ?_ rfl
  unfold fM dY
  have:eY (J5 (d7 (fun ls=>bnd ((fun ls=>bnd ((ao (au 1) (ao (fun _=>ret (.int 2)) (ao (fun _=>ret (.int 2)) (fun _=>ret [])))) ls) (aQ 3 (aZ))) ls) cQ)) (d7 (fun ls=>bnd ((fun ls=>bnd ((ao (m2 dJ (au 1) (fun _=>ret (.int 0))) (ao (fun _=>ret (.int 0)) (ao (m2 uR (fun ls=>bnd ((ao (m2 dJ (au 0) (fun _=>ret (.int 0))) (fun _=>ret [])) ls) gj) (fun _=>ret (.int 1))) (fun _=>ret [])))) ls) (aQ 3 (cY))) ls) cQ))) (cW (fun _=>ret (.bl false))) fJ [.va (eN n),.va (eC (a,w))] s = .ok (.rt (.bl false)) s:=ak (a:=true) (s':=s) (ak t1 t2) rfl
  exact ak this rfl
theorem Qi {n:Net}(h:NetOk n) {d:D}{b:Bool}{s0:DS}(hp:dN [eN n,d] s0 = .ok (.bl b) s0):jL [eN n,.tup [],d] s0=if b=true then .ok .non s0 else .exc bW [("value",d)] s0:=by
 have e1:=Mp h s0
 have e2:oh [eN n,.tup []] s0 = .ok .non s0:=by kernel_rfl
 show bnd (rK [.va (eN n),.va (.tup []),.va d]) endF s0=_
 unfold rK
 have e3:iJ [.va (eN n),.va (.tup []),.va d] s0 = .ok (.nx [.va (eN n),.va (.tup []),.va d]) s0:=by
  unfold iJ
  refine ak (a:= .non) (s':=s0) ?_ rfl
  refine ak (a:=[eN n,.tup []]) (s':=s0) ?_ e2
  refine ak (a:=eN n) (s':=s0) ?_ rfl
  exact ak (a:=[eN n]) (s':=s0) rfl e1
 have e4:d7 (fun ls=>bnd ((fun ls=>bnd ((ao (au 0) (ao (au 2) (fun _=>ret []))) ls) (aQ 2 (dN))) ls) cQ) [.va (eN n),.va (.tup []),.va d] s0 = .ok (!b) s0:=by
  refine ak (a:=b) (s':=s0) ?_ rfl
  refine ak (a:= .bl b) (s':=s0) ?_ rfl
  exact ak (a:=[eN n,d]) (s':=s0) rfl hp
 rw [show bnd (aR iJ j6 [.va (eN n),.va (.tup []),.va d]) endF s0=bnd (j6 [.va (eN n),.va (.tup []),.va d]) endF s0 from by
  unfold bnd
  rw [aJ e3]]
 unfold j6
 cases b with
 | true=>exact ak (ak e4 rfl) rfl
 | false=>
  refine aC (ak e4 ?_)
  rfl
section
variable {σ:DS}{i:Nat}{ws r r':List Str}{num dS:D}{w:Str}{S:List Str}
theorem NQ:Ko eC (fun d=>rF [d]) nR:=fun σ i ws num r h=>by
 show bnd (u9 [.va (.sref i),.un]) endF _=_
 unfold u9 nR
 have e:=Gq (num:=num) (ls:=[.va (.sref i),.un]) rfl h
 have hs:=zM r
 cases ep:cC r with
 | mk o r1=>
  rw [ep] at e hs
  cases o with
  | none=>exact aC (aC (aC e))
  | some c=>
   have h1:=h.to hs
   have e2:=Py (num:=num) (ls:=[.va (.sref i),.va (eC c)]) rfl h1
   have g:vA [.va (.sref i),.un] (stL σ i ws num r) = .ok (.nx [.va (.sref i),.va (eC c)]) (stL σ i ws num r1):=ak e rfl
   dsimp only
   cases eo:pOver r1 with
   | mk o2 r2=>
    rw [eo] at e2
    cases o2 with
    | none=>
     refine aC ?_
     rw [aJ g]
     exact aC (aC e2)
    | some u=>
     refine ak (a:=Fl.rt (eC c)) (s':=stL σ i ws num r2) ?_ rfl
     rw [aJ g,aJ (show vJ [.va (.sref i),.va (eC c)] _ = .ok (.nx [.va (.sref i),.va (eC c)]) (stL σ i ws num r2) from ak e2 rfl)]
     rfl
end
def stN (σ:DS) (x:Str) (num:D) (r:List Str):DS:=stL (σ.push (.ins aD [])) σ.objs.length (cI x) num r
theorem HY (σ:DS) (x:Str) (num:D) (r:List Str):(stN σ x num r).objs=σ.objs++[.ins aD (Vw (cI x) num ((cI x).length-r.length))]:=by
 show (σ.objs++[Th.ins aD []]).set σ.objs.length _=_
 rw [List.set_append_right _ _ (Nat.le_refl _),Nat.sub_self]
 rfl
theorem Vl (o:List Th) (n:Nat) (c:Ch):(eC c).resv o n=eC c:=by
 unfold eC eW
 rw [D.resv,D.dZ,D.dZ,D.dZ,D.resv,D.resv,mQ (fun x=>by rw [D.resv])]
theorem aar (n:Nat) (c:Ch):(eC c).old n=true:=by
 unfold eC eW
 rw [D.old,D.fK,D.fK,D.fK,D.old,D.old,oM (fun x=>by rw [D.old])]
 rfl
theorem V3 (n:Nat) (ws:List Str) (k:Int) (j:Nat):(Th.ins aD (Vw ws (.int k) j)).old n=true:=by
 show D.zR n (Vw ws (.int k) j)=true
 unfold Vw
 rw [D.zR,D.zR,D.zR,D.zR,D.old,D.old,D.old,oM (fun x=>by rw [D.old])]
 rfl
def rpR (n:Net) (σ:DS) (x:Str):Res D:=match nR (cI x) with
 | (none,r)=> .exc bF (liX (cI x) (.int 0) r) (stN σ x (.int 0) r)
 | (some c,r)=>if Rp n c=true then .ok (eC c) σ else .exc bW [("value",eC c)] (stN σ x (.int 0) r)
theorem Rg {w:Str}(h:w∈digs):0≤cU w∧cU w≤9:=by
 simp only [digs,List.mem_cons,List.not_mem_nil,or_false] at h
 rcases h with rfl | rfl | rfl | rfl | rfl | rfl | rfl | rfl | rfl | rfl<;>decide +kernel
theorem Bx {r r1:List Str}{c:Ch}(h:cC r=(some c,r1)):0≤c.1∧(∀x∈c.2,isW x=true)∧c.2.length≤r.length:=by
 unfold cC at h
 cases ep:jW digs r with
 | mk o r2=>
  rw [ep] at h
  have hs:=lW digs r
  rw [ep] at hs
  cases o with
  | none=>cases h
  | some w=>
   cases h
   have:=hs.length_le
   have:=(List.takeWhile_prefix (p:=isW) (l:=r2)).length_le
   exact ⟨(Rg (yF ep)).1,fun x hx=>(List.all_eq_true.mp (List.all_takeWhile (p:=isW) (l:=r2)) x hx),by show (r2.takeWhile isW).length≤_;dsimp only at *;omega⟩
theorem Jc {n:Net}(h:NetOk n) {x:Str}(hx:pA x) (hl:x.length≤2900) {σ:DS}(ob:vQ σ.objs.length σ.objs=true):fG [eN n,.str x] σ=rpR n σ x:=by
 have e1:=Mp h σ
 have i1:kJ isT [.str x,.raw (.ty "str")] σ = .ok (.bl true) σ:=by kernel_rfl
 have hn:=Ku hx (by omega) σ
 have em:=Qa (num:= .int 0) (x:=x) (by omega) σ
 have ep:=NQ (σ.push (.ins aD [])) σ.objs.length (cI x) (.int 0) (cI x) hn
 have g0:iG [.va (eN n),.va (.str x),.un] σ = .ok (.nx [.va (eN n),.va (.str x),.un]) σ:=ak (a:=eN n) (ak (a:=[eN n]) (s':=σ) rfl e1) rfl
 have g1:iD [.va (eN n),.va (.str x),.un] σ = .ok (.nx [.va (eN n),.va (.str x),.un]) σ:=by
  unfold iD
  refine ak (a:=false) (s':=σ) (ak (a:=true) (s':=σ) (ak (a:= .bl true) (s':=σ) (ak (a:=[.str x,.raw (.ty "str")]) (s':=σ) rfl i1) rfl) rfl) rfl
 unfold rpR
 have hlen:(cI x).length≤2901:=by
  have h1:=(split_len (c:=32) (by decide) x).1
  unfold cI
  rw [Oc]
  omega
 cases epp:nR (cI x) with
 | mk o r=>
  rw [epp] at ep
  cases o with
  | none=>
   have g:dG 3 bG [eN n,.str x] σ = .exc bF (liX (cI x) (.int 0) r) (stN σ x (.int 0) r):=by
    show bnd (bG [.va (eN n),.va (.str x),.un]) endF σ=_
    refine aC ?_
    unfold bG
    rw [aJ g0,aJ g1]
    refine aC ?_
    unfold iz
    refine aC ?_
    refine ak (a:=[.sref σ.objs.length]) (s':=stL (σ.push (.ins aD [])) σ.objs.length (cI x) (.int 0) (cI x)) ?_ (call_of ep)
    exact ak (ak (a:=[.str x,.int 0]) (s':=σ) rfl em) rfl
   show zF σ.objs.length (dG 3 bG [eN n,.str x] σ)=_
   rw [g]
   rfl
  | some c=>
   obtain ⟨c0,cw,cl⟩:0≤c.1∧(∀y∈c.2,isW y=true)∧c.2.length≤(cI x).length:=by
    unfold nR at epp
    cases ec:cC (cI x) with
    | mk o1 r1=>
     rw [ec] at epp
     cases o1 with
     | none=>cases epp
     | some c1=>
      dsimp only at epp
      cases eo:pOver r1 with
      | mk o2 r2=>
       rw [eo] at epp
       cases o2 with
       | none=>cases epp
       | some u=>cases epp;exact Bx ec
   have e5:=RP h c0 (fun y hy=>sE (cw y hy)) (by omega) (stN σ x (.int 0) r)
   have e6:=Qi h e5
   have g2:iz [.va (eN n),.va (.str x),.un] σ = .ok (.nx [.va (eN n),.va (.str x),.va (eC c)]) (stN σ x (.int 0) r):=by
    unfold iz
    refine ak (a:=eC c) (s':=stN σ x (.int 0) r) ?_ rfl
    refine ak (a:=[.sref σ.objs.length]) (s':=stL (σ.push (.ins aD [])) σ.objs.length (cI x) (.int 0) (cI x)) ?_ (call_of ep)
    exact ak (ak (a:=[.str x,.int 0]) (s':=σ) rfl em) rfl
   have e7:(fun ls=>bnd ((ao (au 0) (ao (fun ls=>bnd ((fun _=>ret []) ls) bK) (ao (au 2) (fun _=>ret [])))) ls) (aQ 3 (jL))) [.va (eN n),.va (.str x),.va (eC c)] (stN σ x (.int 0) r)=(if Rp n c=true then .ok .non (stN σ x (.int 0) r) else .exc bW [("value",eC c)] (stN σ x (.int 0) r)):=ak (a:=[eN n,.tup [],eC c]) (s':=stN σ x (.int 0) r) rfl e6
   dsimp only
   by_cases hp:Rp n c=true
   ·rw [if_pos hp] at e7 ⊢
    refine aaH (s':=stN σ x (.int 0) r) ?_ (Vl _ _ _) (aar _ _) ?_ ob rfl
    ·show bnd (bG [.va (eN n),.va (.str x),.un]) endF σ=_
     refine ak (a:=Fl.rt (eC c)) (s':=stN σ x (.int 0) r) ?_ rfl
     unfold bG
     rw [aJ g0,aJ g1,aJ g2,aJ (show rM _ _ = .ok (.nx [.va (eN n),.va (.str x),.va (eC c)]) (stN σ x (.int 0) r) from ak e7 rfl)]
     rfl
    ·rw [HY]
     simp
   ·rw [if_neg hp] at e7 ⊢
    have g:dG 3 bG [eN n,.str x] σ = .exc bW [("value",eC c)] (stN σ x (.int 0) r):=by
     show bnd (bG [.va (eN n),.va (.str x),.un]) endF σ=_
     refine aC ?_
     unfold bG
     rw [aJ g0,aJ g1,aJ g2]
     exact aC (aC e7)
    show zF σ.objs.length (dG 3 bG [eN n,.str x] σ)=_
    rw [g]
    rfl
theorem DOk.line {am:Addr}{σ:DS}(h:DOk am σ) (x:Str) (k:Int) (r:List Str):DOk am (stN σ x (.int k) r):=by
 refine ⟨⟨h.d.at_,h.d.s0,h.d.cl,h.d.gl⟩,?_⟩
 rw [HY,Cd]
 intro t ht
 rcases List.mem_append.mp ht with z | z
 ·exact Qy (by simp) t (Cd.mp h.ob t z)
 ·rw [List.mem_singleton.mp z]
  exact V3 _ _ _ _
end PV.Law
namespace PV
open PySem PySem.W PySem.Calls PyProof.Rows L2
theorem K6 {mg:MG}{mt:bJ Bool}{me:bJ D}{ls:List Sl}{s:DS}{α:Type}(g:α→D) (p:α→Bool) (f:α→D):∀(xs:List α),(∀x∈xs,∃ls1,mg (g x) ls=some ls1∧mt ls1 s = .ok (p x) s∧(p x=true→me ls1 s = .ok (f x) s))→yQ mg mt me (xs.map g) ls s = .ok ((xs.filter p).map f) s
 | [],_=>rfl
 | x::xs,h=>by
  obtain ⟨ls1,e,e1,e2⟩:=h x List.mem_cons_self
  have ih:=K6 g p f xs fun y hy=>h y (List.mem_cons_of_mem _ hy)
  have en:nox (mt ls1) s = .ok (p x) s:=by unfold nox;rw [e1]
  rw [List.map_cons,yQ,e]
  show bnd (nox (mt ls1)) _ s=_
  rw [aP en]
  cases hp:p x with
  | false=>
   simp only [Bool.false_eq_true,if_false]
   rw [ih,List.filter_cons_of_neg (by simp [hp])]
  | true=>
   simp only [if_true]
   have en2:nox (me ls1) s = .ok (f x) s:=by unfold nox;rw [e2 hp]
   rw [aP en2,aP ih,List.filter_cons_of_pos hp]
   rfl
theorem Yp (i n:Nat):sV (i:Int) (n+1) = .int (i:Int)::sV ((i+1:Nat):Int) n:=by
 unfold sV
 rw [List.range_succ_eq_map,List.map_cons,List.map_map]
 refine List.cons_eq_cons.mpr ⟨by simp,List.map_congr_left fun x _=> ?_⟩
 refine congrArg D.int ?_
 show (i:Int)+((x+1:Nat):Int)=((i+1:Nat):Int)+(x:Int)
 omega
theorem Yt {m:M (List D)}{s:DS}{x:Int}{k:Nat}(h:m s = .ok [.int x] s) (h0:0≤x) (h1:x≤1000000) (e:x.toNat=k):bnd m oJ s = .ok (sV 0 k) s:=by
 subst e
 exact ak h (rN h0 h1)
theorem Zm {m:M (List D)}{s:DS}{a b:Int}{k:Nat}(h:m s = .ok [.int a,.int b] s) (h0:0≤a) (h1:a≤1000000) (h2:0≤b) (h3:b≤1000000) (e:(b-a).toNat=k):bnd m Jy s = .ok (sV a k) s:=by
 rw [aP h]
 have q:(-(2^62)≤a∧a<2^62) ∧ -(2^62)≤b∧b<2^62:=by constructor<;>constructor<;>omega
 have e2:Jy [.int a,.int b]=ret (sV a (b-a).toNat):=if_pos q
 rw [e2,e]
theorem Vh (xs:List D):fZ xs (some 1) none=xs.drop 1:=by
 unfold fZ
 rw [show (1:Int)=((1:Nat):Int) from rfl,HT.sIx_nat,HT.sIx_none]
 cases xs with
 | nil=>rfl
 | cons x xs=>
  rw [Nat.min_eq_left (by simp)]
  rw [List.take_of_length_le (by rw [List.length_drop];omega)]
theorem Hw {i:Nat}{me:bJ D}{ls:List Sl}{ds:List D}{d:D}{s s':DS}(h:ls[i]?=some (.ow ds)) (e:me ls s = .ok d s') (hl:ds.length≤200000):jC i me ls s = .ok (.nx (ls.set i (.ow (ds++[d])))) s':=by
 unfold jC Mw
 rw [h]
 show (bnd (me ls) fun d=>if ds.length<sizeLine then ret (Fl.nx _) else stk) s=_
 refine ak e ?_
 rw [if_pos (by rw [sizeLine_eq];omega)]
theorem aaR:digs=[48,49,50,51,52,53,54,55,56,57].map fun c=>SX.S [c]:=by decide +kernel
theorem Y4 {x:Str}(h:x.length=1):(!(Builtin.Str.occurrences ("0123456789" : Str) x 0 ("0123456789" : Str).length 1).isEmpty)=decide (x∈digs):=by
 obtain ⟨⟨a⟩⟩:=x
 rw [str_len] at h
 have h:a.length=1:=h
 obtain ⟨c,rfl⟩:=List.length_eq_one_iff.mp h
 show (!(Builtin.Str.occurrences ("0123456789" : Str) ⟨#[c]⟩ 0 ("0123456789" : Str).length 1).isEmpty)=decide (SX.S [c]∈digs)
 rw [StrLaws.found_one,Tz,aaR,Bool.eq_iff_iff,decide_eq_true_iff,decide_eq_true_iff,List.mem_map]
 constructor
 ·exact fun h=>⟨c,h,rfl⟩
 ·rintro ⟨d,hd,e⟩
  have:=SX.S_inj e
  cases this
  exact hd
theorem YM {x:Str}(h:x∈digs):x.length=1:=by
 simp only [digs,List.mem_cons,List.not_mem_nil,or_false] at h
 rcases h with rfl | rfl | rfl | rfl | rfl | rfl | rfl | rfl | rfl | rfl<;>decide +kernel
theorem aey (c:Nat) (s:DS):KJ (.str "a") (.str ⟨#[c]⟩) s = .ok (.bl (decide (97≤c))) s:=by
 have e:(("a" : Str)).cps.toList=[97]:=by decide +kernel
 show Res.ok (D.bl (!decide ([c]<("a" : Str).cps.toList))) s=_
 rw [e]
 have:decide ([c]<[97])=decide (c<97):=by
  rw [Bool.eq_iff_iff,decide_eq_true_iff,decide_eq_true_iff,List.cons_lt_cons_iff]
  simp
 rw [this]
 congr 2
 rw [Bool.eq_iff_iff]
 simp
theorem aef (c:Nat) (s:DS):KJ (.str ⟨#[c]⟩) (.str "z") s = .ok (.bl (decide (c≤122))) s:=by
 have e:(("z" : Str)).cps.toList=[122]:=by decide +kernel
 show Res.ok (D.bl (!decide (("z" : Str).cps.toList<[c]))) s=_
 rw [e]
 have:decide ([122]<[c])=decide (122<c):=by
  rw [Bool.eq_iff_iff,decide_eq_true_iff,decide_eq_true_iff,List.cons_lt_cons_iff]
  simp
 rw [this]
 congr 2
 rw [Bool.eq_iff_iff]
 simp
theorem Um {l:List Str}(h:∀x∈l,PyData.strOk x=true):SeqAt.shaped (.list (l.map .str))=true:=by
 unfold SeqAt.shaped
 rw [PyData.canLay0,layAll_str l h,PyData.depth,gK]
 rfl
theorem DY {l:List Str}(h:∀x∈l,PyData.strOk x=true) (s:DS):Jx (.lst (l.map .str)) (.lst []) s = .ok (.bl (!decide (l=[]))) s:=by
 have e:D.pd (.lst (l.map D.str))=some (.list (l.map PyData.str)):=by
  show (D.tM (l.map D.str)).map PyData.list=_
  rw [fU (g:=PyData.str) _ (fun _=>rfl)]
  rfl
 show K7 (D.pd (.lst (l.map D.str))) (some (PyData.list [])) _ s=_
 rw [e]
 show (if SeqAt.shaped (.list (l.map PyData.str))=true∧SeqAt.shaped (.list [])=true then ret (D.bl (!PyData.eqv (.list (l.map PyData.str)) (.list []))) else stk:M D) s=_
 rw [if_pos ⟨Um h,by decide +kernel⟩,PyData.eqv]
 cases l<;>rfl
theorem YG {x:Str}{l:List Str}(hx:PyData.strOk x=true) (hl:∀y∈l,PyData.strOk y=true) (s:DS):Ai (.str x) (eW l) s = .ok (.bl (!decide (x∈l))) s:=by
 show K7 (some (PyData.str x)) (D.tM (l.map D.str)) _ s=_
 rw [fU (g:=PyData.str) _ (fun _=>rfl)]
 have h2:SeqAt.shaped (.tuple (l.map PyData.str))=true:=G6 hl
 show (if SeqAt.shaped (.str x)=true∧SeqAt.shaped (.tuple (l.map PyData.str))=true then ret (D.bl (!mH (.str x) (l.map PyData.str))) else stk) s=_
 rw [if_pos ⟨zK hx,h2⟩,CG]
end PV
namespace PV.Law
open PySem PySem.W PySem.Calls PyProof.Rows L2 PV
def Ub (k:Nat):D:= .tup [.str "line",.int 0,.int (k:Int)]
def Zr (n:Net) (x:Str):D:=match nR (cI x) with
 | (none,r)=>Ub ((cI x).length-r.length)
 | (some c,_)=>if Rp n c=true then .lst [eC c] else .tup [.str "parcel",eC c]
section
variable {N:D}{T:D}{ws:List Str}{s:DS}
abbrev oX (N T:D) (ws:List Str) (l:List Sl):List Sl:= .va N :: .va T :: .va (.lst (ws.map .str))::l
theorem Xm {w:Str}{k:Nat}{x4 x5 x6:Sl}(hk:ws[k]?=some w) (hw:pA w) (hl:w.length≤16777216):∃x6',lQ (oX N T ws [.va (.int (k:Int)),x4,x5,x6]) s = .ok (if isW w=true then .nx (oX N T ws [.va (.int (k:Int)),x4,x5,x6']) else .rt (Ub k)) s:=by
 refine ⟨x6,?_⟩
 have ew:m2 dJ (au 2) (au 3) (oX N T ws [.va (.int (k:Int)),x4,x5,x6]) s = .ok (.str w) s:=by
  refine dR (x:= .lst (ws.map D.str)) (y:= .int (k:Int)) (s1:=s) (s2:=s) rfl rfl ?_
  show oG (atI (ws.map D.str) _) s=_
  rw [oE hk]
  rfl
 have ew':∀x6,m2 dJ (au 2) (au 3) (oX N T ws [.va (.int (k:Int)),x4,x5,x6]) s = .ok (.str w) s:=fun x6=>by
  refine dR (x:= .lst (ws.map D.str)) (y:= .int (k:Int)) (s1:=s) (s2:=s) rfl rfl ?_
  show oG (atI (ws.map D.str) _) s=_
  rw [oE hk]
  rfl
 have e1:d7 (fun ls=>bnd (o9 Wb Wb (fun _=>ret (.int 1)) (fun ls=>bnd ((ao (m2 dJ (au 2) (au 3)) (fun _=>ret [])) ls) gj) (fun _=>ret (.int 8)) ls) jR) (oX N T ws [.va (.int (k:Int)),x4,x5,x6]) s = .ok (!(decide (1≤w.length)&&decide (w.length≤8))) s:=by
  refine ak (a:=decide (1≤w.length)&&decide (w.length≤8)) (s':=s) ?_ rfl
  refine ak (a:= .bl (decide (1≤w.length)&&decide (w.length≤8))) (s':=s) ?_ rfl
  refine ak (a:= .int 1) (s':=s) rfl ?_
  refine ak (a:= .int (w.length:Int)) (s':=s) ?_ ?_
  ·refine ak (a:=[.str w]) (s':=s) (ak ew rfl) ?_
   show (if w.length≤sizeLine then ret (D.int w.length) else stk:M D) s=_
   rw [if_pos (by rw [sizeLine_eq];exact hl)]
  ·refine ak (a:= .bl (decide ((1:Int)≤(w.length:Int)))) (s':=s) rfl ?_
   by_cases h1:1≤w.length
   ·rw [decide_eq_true (by omega:(1:Int)≤(w.length:Int)),decide_eq_true h1]
    show Res.ok (D.bl (decide ((w.length:Int)≤8))) s=_
    have:decide ((w.length:Int)≤8)=decide (w.length≤8):=by rw [Bool.eq_iff_iff,decide_eq_true_iff,decide_eq_true_iff];omega
    rw [this]
    rfl
   ·rw [decide_eq_false (by omega:¬(1:Int)≤(w.length:Int)),decide_eq_false h1]
    rfl
 have e2:(fun ls=>bnd (m2 Jx (mL (qK [6] (fun ls=>bnd ((m2 dJ (au 2) (au 3)) ls) Xy) (gQ 6) (d7 (fun ls=>bnd (o9 KJ KJ (fun _=>ret (.str "a")) (au 6) (fun _=>ret (.str "z")) ls) jR)) (au 6))) (mL (fun ls=>bnd ((fun _=>ret []) ls) eX)) ls) jR) (oX N T ws [.va (.int (k:Int)),x4,x5,x6]) s = .ok (!w.cps.toList.all JQ) s:=by
  have el:=K6 (s:=s) (ls:=oX N T ws [.va (.int (k:Int)),x4,x5,.un]) (mg:=gQ 6) (mt:=d7 (fun ls=>bnd (o9 KJ KJ (fun _=>ret (.str "a")) (au 6) (fun _=>ret (.str "z")) ls) jR)) (me:=au 6) (fun c:Nat=>D.str ⟨#[c]⟩) (fun c=> !JQ c) (fun c=>D.str ⟨#[c]⟩) w.cps.toList fun c hc=>⟨_,rfl,by
   refine ak (a:=JQ c) (s':=s) ?_ rfl
   refine ak (a:= .bl (JQ c)) (s':=s) ?_ rfl
   refine ak (a:= .str "a") (s':=s) rfl ?_
   refine ak (a:= .str ⟨#[c]⟩) (s':=s) rfl ?_
   refine ak (aey c s) ?_
   unfold JQ
   cases decide (97≤c) with
   | false=>rfl
   | true=>exact ak (a:=D.str "z") (s':=s) rfl (aef c s),fun _=>rfl⟩
  have en:=DY (l:=(w.cps.toList.filter fun c=> !JQ c).map fun c=>SX.S [c]) (fun y hy=>by
   obtain ⟨c,hc,rfl⟩:=List.mem_map.mp hy
   have:=rJ.mp hw c (List.mem_filter.mp hc).1
   exact ada.mpr (by simpa using this)) s
  have ed:decide ((w.cps.toList.filter fun c=> !JQ c).map (fun c=>SX.S [c])=[])=w.cps.toList.all JQ:=by
   rw [Bool.eq_iff_iff,decide_eq_true_iff,List.map_eq_nil_iff,List.filter_eq_nil_iff,List.all_eq_true]
   simp
  rw [ed,List.map_map] at en
  refine ak (a:= .bl (!w.cps.toList.all JQ)) (s':=s) ?_ rfl
  refine dR (x:= .lst ((w.cps.toList.filter fun c=> !JQ c).map fun c=>D.str ⟨#[c]⟩)) (y:= .lst []) (s1:=s) (s2:=s) ?_ rfl en
  refine ak (a:=(w.cps.toList.filter fun c=> !JQ c).map fun c=>D.str ⟨#[c]⟩) (s':=s) ?_ rfl
  unfold qK
  refine ak (a:=signs w) (s':=s) (ak ew rfl) ?_
  rw [if_pos (by unfold signs;rw [List.length_map,sizeLine_eq,←str_len];exact hl)]
  exact el
 unfold lQ vD
 refine ak (a:= !isW w) (s':=s) ?_ ?_
 ·refine ak e1 ?_
  unfold isW
  cases (decide (1≤w.length)&&decide (w.length≤8)) with
  | false=>rfl
  | true=>exact e2
 ·cases isW w<;>rfl
theorem MF {x4 x5:Sl}(hok:∀w∈ws,pA w∧w.length≤16777216):∀(rest:List Str) (j:Nat) (x3 x6:Sl),ws.drop j=rest→∃x3' x6',fH (gQ 3) lQ (sV (j:Int) rest.length) (oX N T ws [x3,x4,x5,x6]) s = .ok (if rest.dropWhile isW=[] then .nx (oX N T ws [x3',x4,x5,x6']) else .rt (Ub (j+(rest.takeWhile isW).length))) s
 | [],j,x3,x6,h=>⟨x3,x6,rfl⟩
 | w::rest,j,x3,x6,h=>by
  have hj:ws[j]?=some w:=by
   have:=congrArg (fun l:List Str=>l[0]?) h
   simpa using this
  have hd:ws.drop (j+1)=rest:=by
   rw [←List.drop_drop,h]
   rfl
  have hw:=hok w (List.mem_of_getElem? hj)
  obtain ⟨y6,e1⟩:=Xm (N:=N) (T:=T) (s:=s) (x4:=x4) (x5:=x5) (x6:=x6) hj hw.1 hw.2
  rw [List.length_cons,Yp,fH]
  show ∃x3' x6',bnd (lQ (oX N T ws [.va (.int (j:Int)),x4,x5,x6])) _ s=_
  cases hw:isW w with
  | false=>
   rw [hw] at e1
   refine ⟨x3,x6,?_⟩
   rw [List.takeWhile_cons_of_neg (by rw [hw];decide),List.dropWhile_cons_of_neg (by rw [hw];decide),if_neg (by simp)]
   exact ak e1 rfl
  | true=>
   rw [hw] at e1
   obtain ⟨z3,z6,ih⟩:=MF (x4:=x4) (x5:=x5) hok rest (j+1) (.va (.int (j:Int))) y6 hd
   refine ⟨z3,z6,?_⟩
   rw [List.takeWhile_cons_of_pos hw,List.dropWhile_cons_of_pos hw]
   refine ak e1 ?_
   refine Eq.trans ih ?_
   rw [List.length_cons]
   rw [show j+1+(rest.takeWhile isW).length=j+((rest.takeWhile isW).length+1) by omega]
end
theorem ac4 {n:Net}(h:NetOk n) {x:Str}(hx:pA x) (hl:x.length≤2900) (s:DS):nD [eN n,.str x] s = .ok (Zr n x) s:=by
 have hlen:(cI x).length≤x.length+1∧cI x≠[]:=by
  unfold cI
  rw [Oc]
  exact split_len (c:=32) (by decide) x
 have hok:∀w∈cI x,pA w∧w.length≤16777216:=(Ku hx (by omega) s).ok
 have i1:kJ isT [.str x,.raw (.ty "str")] s = .ok (.bl true) s:=by kernel_rfl
 show bnd (jU [.va (eN n),.va (.str x),.un,.un,.un,.un,.un]) endF s=_
 have g0:jx [.va (eN n),.va (.str x),.un,.un,.un,.un,.un] s = .ok (.nx [.va (eN n),.va (.str x),.un,.un,.un,.un,.un]) s:=by
  unfold jx
  refine ak (a:=false) (s':=s) (ak (a:=true) (s':=s) (ak (a:= .bl true) (s':=s) (ak (a:=[.str x,.raw (.ty "str")]) (s':=s) rfl i1) rfl) rfl) rfl
 have g1:sU [.va (eN n),.va (.str x),.un,.un,.un,.un,.un] s = .ok (.nx (oX (eN n) (.str x) (cI x) [.un,.un,.un,.un])) s:=by
  unfold sU
  refine ak (a:= .lst ((cI x).map .str)) (s':=s) ?_ rfl
  refine ak (a:=(cI x).map .str) (s':=s) ?_ rfl
  refine ak (a:= .str x) (s':=s) rfl ?_
  refine ak (a:= .str " ") (s':=s) rfl ?_
  show (if ((" " : Str).length==0)=false∧x.length+2≤sizeLine then ret ((Txt.split x " ").map .str) else stk:M (List D)) s=_
  rw [if_pos ⟨by decide +kernel,by rw [sizeLine_eq];omega⟩]
  rfl
 have mk:∀d,jU [.va (eN n),.va (.str x),.un,.un,.un,.un,.un] s = .ok (.rt d) s→bnd (jU [.va (eN n),.va (.str x),.un,.un,.un,.un,.un]) endF s = .ok d s:=fun d e=>ak e rfl
 refine mk _ ?_
 unfold jU
 rw [aJ g0,aJ g1]
 unfold Zr nR cC
 obtain ⟨hl1,hne⟩:=hlen
 generalize cI x=ws at *
 cases ws with
 | nil=>exact absurd rfl hne
 | cons w ws=>
  have hw:=hok w List.mem_cons_self
  have e1:∀l,m2 dJ (au 2) (fun _=>ret (.int 0)) (oX (eN n) (.str x) (w::ws) l) s = .ok (.str w) s:=fun l=>by
   refine dR (x:= .lst ((w::ws).map D.str)) (y:= .int 0) (s1:=s) (s2:=s) rfl rfl ?_
   show oG (atI ((w::ws).map D.str) ((0:Nat):Int)) s=_
   rw [oE (n:=0) (x:=w) rfl]
   rfl
  have e2:J5 (fun ls=>bnd (m2 Jx (fun ls=>bnd ((ao (m2 dJ (au 2) (fun _=>ret (.int 0))) (fun _=>ret [])) ls) gj) (fun _=>ret (.int 1)) ls) jR) (fun ls=>bnd (m2 Ai (m2 dJ (au 2) (fun _=>ret (.int 0))) (fun _=>ret (.str "0123456789")) ls) jR) (oX (eN n) (.str x) (w::ws) [.un,.un,.un,.un]) s = .ok (!decide (w∈digs)) s:=by
   refine ak (a:= !decide (w.length=1)) (s':=s) ?_ ?_
   ·refine ak (a:= .bl (!decide (w.length=1))) (s':=s) ?_ rfl
    refine dR (x:= .int (w.length:Int)) (y:= .int 1) (s1:=s) (s2:=s) ?_ rfl ?_
    ·refine ak (a:=[.str w]) (s':=s) (ak (e1 _) rfl) ?_
     show (if w.length≤sizeLine then ret (D.int w.length) else stk:M D) s=_
     rw [if_pos (by rw [sizeLine_eq];exact hw.2)]
    ·show Res.ok (D.bl (!decide ((w.length:Int)=1))) s=_
     have:decide ((w.length:Int)=1)=decide (w.length=1):=by rw [Bool.eq_iff_iff,decide_eq_true_iff,decide_eq_true_iff];omega
     rw [this]
   ·by_cases h1:w.length=1
    ·rw [decide_eq_true h1]
     have e3:=Y4 h1
     show bnd (m2 Ai (m2 dJ (au 2) (fun _=>ret (.int 0))) (fun _=>ret (.str "0123456789")) (oX (eN n) (.str x) (w::ws) [.un,.un,.un,.un])) jR s=_
     refine ak (a:= .bl (!decide (w∈digs))) (s':=s) ?_ rfl
     refine dR (x:= .str w) (y:= .str "0123456789") (s1:=s) (s2:=s) (e1 _) rfl ?_
     show Res.ok (D.bl (!!(Builtin.Str.occurrences ("0123456789" : Str) w 0 ("0123456789" : Str).length 1).isEmpty)) s=_
     rw [e3]
    ·rw [decide_eq_false h1,decide_eq_false (fun z=>h1 (YM z))]
     rfl
  rw [dW]
  by_cases hd:w∈digs
  ·rw [if_pos hd]
   rw [decide_eq_true hd] at e2
   rw [aJ (show su _ s = .ok (.nx (oX (eN n) (.str x) (w::ws) [.un,.un,.un,.un])) s from ak e2 rfl)]
   obtain ⟨x3,x6,el⟩:=MF (N:=eN n) (T:= .str x) (s:=s) (x4:= .un) (x5:= .un) hok ws 1 .un .un rfl
   have g3:sJ (oX (eN n) (.str x) (w::ws) [.un,.un,.un,.un]) s = .ok (if ws.dropWhile isW=[] then .nx (oX (eN n) (.str x) (w::ws) [x3,.un,.un,x6]) else .rt (Ub (1+(ws.takeWhile isW).length))) s:=by
    unfold sJ
    refine ak (Zm (a:=1) (b:=((w::ws).length:Int)) (k:=ws.length) ?_ (by omega) (by omega) (by omega) (by omega) (by simp only [List.length_cons];omega)) el
    refine ak (a:= .int 1) (s':=s) rfl ?_
    refine ak (a:=[.int ((w::ws).length:Int)]) (s':=s) ?_ rfl
    refine ak (a:= .int ((w::ws).length:Int)) (s':=s) ?_ rfl
    refine ak (a:=[.lst ((w::ws).map D.str)]) (s':=s) rfl ?_
    rw [Qq,List.length_map]
   have htd:=congrArg List.length (List.takeWhile_append_dropWhile (p:=isW) (l:=ws))
   rw [List.length_append] at htd
   dsimp only
   cases hdw:ws.dropWhile isW with
   | cons y ys=>
    rw [hdw,if_neg (by simp)] at g3
    unfold pOver
    dsimp only
    rw [xQ,g3]
    have:1+(ws.takeWhile isW).length=(w::ws).length-(y::ys).length:=by
     rw [hdw] at htd
     simp only [List.length_cons] at htd ⊢
     omega
    rw [this]
   | nil=>
    rw [hdw,if_pos rfl] at g3
    unfold pOver
    dsimp only
    rw [aJ g3]
    have etw:ws.takeWhile isW=ws:=by
     have:=List.takeWhile_append_dropWhile (p:=isW) (l:=ws)
     rw [hdw,List.append_nil] at this
     exact this
    rw [etw]
    have hws:∀y∈ws,PyData.strOk y=true:=fun y hy=>(hok y (List.mem_cons_of_mem _ hy)).1
    have g4:rY (oX (eN n) (.str x) (w::ws) [x3,.un,.un,x6]) s = .ok (.nx (oX (eN n) (.str x) (w::ws) [x3,.va (eC (cU w,ws)),.un,x6])) s:=by
     unfold rY
     refine ak (a:=eC (cU w,ws)) (s':=s) ?_ rfl
     refine ak (a:=[.int (cU w),eW ws]) (s':=s) ?_ rfl
     refine ak (a:= .int (cU w)) (s':=s) ?_ ?_
     ·exact ak (a:=[.str w]) (s':=s) (ak (e1 _) rfl) (Ax hd s)
     ·refine ak (a:=[eW ws]) (s':=s) ?_ rfl
      refine ak (a:=eW ws) (s':=s) ?_ rfl
      refine ak (a:=[.lst (ws.map D.str)]) (s':=s) ?_ rfl
      refine ak (a:= .lst (ws.map D.str)) (s':=s) ?_ rfl
      refine ak (a:= .lst ((w::ws).map D.str)) (s':=s) rfl ?_
      refine ak (a:=some 1) (s':=s) rfl ?_
      refine ak (a:=none) (s':=s) rfl ?_
      rw [Nq,Vh]
      rfl
    rw [aJ g4]
    have t1:(fun ls=>bnd (m2 ZS (m2 dJ (au 4) (fun _=>ret (.int 0))) (fun ls=>bnd ((ao (m2 dJ (au 0) (fun _=>ret (.int 0))) (fun _=>ret [])) ls) gj) ls) jR) (oX (eN n) (.str x) (w::ws) [x3,.va (eC (cU w,ws)),.un,x6]) s = .ok (decide ((n.roads.length:Int)≤cU w)) s:=by
     refine ak (a:= .bl (decide ((n.roads.length:Int)≤cU w))) (s':=s) ?_ rfl
     refine dR (x:= .int (cU w)) (y:= .int (n.roads.length:Int)) (s1:=s) (s2:=s) rfl ?_ rfl
     exact ak (a:=[.tup (n.roads.map eP)]) (s':=s) rfl (by rw [zG,List.length_map])
    have t2:(fun ls=>bnd (m2 Jx (mL (qK [5] (lB (m2 dJ (au 4) (fun _=>ret (.int 1)))) (gQ 5) (fun ls=>bnd (m2 Ai (au 5) (m2 dJ (au 0) (fun _=>ret (.int 1))) ls) jR) (au 5))) (mL (fun ls=>bnd ((fun _=>ret []) ls) eX)) ls) jR) (oX (eN n) (.str x) (w::ws) [x3,.va (eC (cU w,ws)),.un,x6]) s = .ok (!Rv n.labels ws) s:=by
     have el:=K6 (s:=s) (ls:=oX (eN n) (.str x) (w::ws) [x3,.va (eC (cU w,ws)),.un,x6]) (mg:=gQ 5) (mt:=fun ls=>bnd (m2 Ai (au 5) (m2 dJ (au 0) (fun _=>ret (.int 1))) ls) jR) (me:=au 5) D.str (fun y=> !decide (y∈n.labels)) D.str ws fun y hy=>⟨_,rfl,by
      refine ak (a:= .bl (!decide (y∈n.labels))) (s':=s) ?_ rfl
      exact dR (x:= .str y) (y:=eW n.labels) (s1:=s) (s2:=s) rfl rfl (YG (hws y hy) h.lb.2.2.1 s),fun _=>rfl⟩
     have en:=DY (l:=ws.filter fun y=> !decide (y∈n.labels)) (fun y hy=>hws y (List.mem_filter.mp hy).1) s
     have ed:decide ((ws.filter fun y=> !decide (y∈n.labels))=[])=Rv n.labels ws:=by
      unfold Rv
      rw [Bool.eq_iff_iff,decide_eq_true_iff,List.filter_eq_nil_iff,List.all_eq_true]
      simp
     rw [ed] at en
     refine ak (a:= .bl (!Rv n.labels ws)) (s':=s) ?_ rfl
     refine dR (x:= .lst ((ws.filter fun y=> !decide (y∈n.labels)).map D.str)) (y:= .lst []) (s1:=s) (s2:=s) ?_ rfl en
     refine ak (a:=(ws.filter fun y=> !decide (y∈n.labels)).map D.str) (s':=s) ?_ rfl
     unfold qK
     refine ak (a:=ws.map D.str) (s':=s) rfl ?_
     rw [if_pos (by rw [List.length_map,sizeLine_eq];simp only [List.length_cons] at hl1;omega)]
     exact el
    have ep:Rp n (cU w,ws)=(!decide ((n.roads.length:Int)≤cU w)&&Rv n.labels ws):=by
     show (decide (cU w<(n.roads.length:Int))&&Rv n.labels ws)=_
     rw [show decide (cU w<(n.roads.length:Int)) = !decide ((n.roads.length:Int)≤cU w) from by
      generalize cU w=a
      by_cases hz:a<(n.roads.length:Int)
      ·rw [decide_eq_true hz,decide_eq_false (by omega)];rfl
      ·rw [decide_eq_false hz,decide_eq_true (by omega)];rfl]
    rw [ep]
    have t3:J5 (fun ls=>bnd (m2 ZS (m2 dJ (au 4) (fun _=>ret (.int 0))) (fun ls=>bnd ((ao (m2 dJ (au 0) (fun _=>ret (.int 0))) (fun _=>ret [])) ls) gj) ls) jR) (fun ls=>bnd (m2 Jx (mL (qK [5] (lB (m2 dJ (au 4) (fun _=>ret (.int 1)))) (gQ 5) (fun ls=>bnd (m2 Ai (au 5) (m2 dJ (au 0) (fun _=>ret (.int 1))) ls) jR) (au 5))) (mL (fun ls=>bnd ((fun _=>ret []) ls) eX)) ls) jR) (oX (eN n) (.str x) (w::ws) [x3,.va (eC (cU w,ws)),.un,x6]) s = .ok (!(!decide ((n.roads.length:Int)≤cU w)&&Rv n.labels ws)) s:=by
     refine ak t1 ?_
     cases decide ((n.roads.length:Int)≤cU w) with
     | true=>rfl
     | false=>exact t2
    cases hb:(!decide ((n.roads.length:Int)≤cU w)&&Rv n.labels ws) with
    | true=>
     rw [hb] at t3
     rw [aJ (show sG _ s = .ok (.nx (oX (eN n) (.str x) (w::ws) [x3,.va (eC (cU w,ws)),.un,x6])) s from ak t3 rfl)]
     rfl
    | false=>
     rw [hb] at t3
     rw [xQ,show sG (oX (eN n) (.str x) (w::ws) [x3,.va (eC (cU w,ws)),.un,x6]) s = .ok (.rt (.tup [.str "parcel",eC (cU w,ws)])) s from ak t3 rfl]
     rfl
  ·rw [if_neg hd]
   rw [decide_eq_false hd] at e2
   dsimp only
   rw [Nat.sub_self]
   rw [xQ,show su _ s = .ok (.rt (Ub 0)) s from ak e2 rfl]
section
variable {σ:DS}{i:Nat}{ws r r':List Str}{num dS:D}{w:Str}{S:List Str}
theorem aav {a b:Str}(ha:pA a) (hb:pA b):uY (.tup [.str a,.str b]) [a,b]:=Ih (S:=[a,b]) fun y hy=>by
 rcases List.mem_cons.mp hy with rfl | hy
 ·exact ha
 ·rw [List.mem_singleton.mp hy];exact hb
theorem aao {a:Str}(ha:pA a):uY (.tup [.str a]) [a]:=Ih (S:=[a]) fun y hy=>by
 rw [List.mem_singleton.mp hy];exact ha
theorem eq_str (a b:Str) (s:DS):v7 (.str a) (.str b) s = .ok (.bl (decide (a=b))) s:=rfl
theorem ade:∀(m k:Nat) (gs:List (List Ch)) (g:List Ch) (r:List Str),r.length≤m→r.length<k→gs.length+g.length+r.length≤5000→LnOk σ i ws r →
  (∃gs' g',Pn m gs g r=(some (gs'++[g']),[])∧gs'.length≤5000∧fW (d7 (fun ls=>bnd ((fun ls=>bnd ((au 0) ls) fun d=>bM aD "is_over" 1 (aW) d (ret [])) ls) cQ)) dM k [.va (.sref i),.ow (gs.map eG),.ow (g.map eC)] (stL σ i ws num r) = .ok (.nx [.va (.sref i),.ow (gs'.map eG),.ow (g'.map eC)]) (stL σ i ws num [])) ∨
  (∃r',Pn m gs g r=(none,r')∧fW (d7 (fun ls=>bnd ((fun ls=>bnd ((au 0) ls) fun d=>bM aD "is_over" 1 (aW) d (ret [])) ls) cQ)) dM k [.va (.sref i),.ow (gs.map eG),.ow (g.map eC)] (stL σ i ws num r) = .exc bF (liX ws num r') (stL σ i ws num r'))
 | m,0,gs,g,r,_,hk,_,_=>by omega
 | 0,k+1,gs,g,w::r,hm,_,_,_=>by simp at hm
 | m,k+1,gs,g,[],hm,hk,hz,h=>by
  left
  refine ⟨gs,g,by cases m<;>rfl,by simp at hz;omega,?_⟩
  unfold fW
  refine ak (a:=false) (s':=stL σ i ws num []) (ak (ak (zH rfl h) rfl) rfl) rfl
 | m+1,k+1,gs,g,w::r,hm,hk,hz,h=>by
  simp only [List.length_cons] at hm hk hz
  have hr:LnOk σ i ws r:=h.to (List.suffix_cons _ _)
  have e0:d7 (fun ls=>bnd ((fun ls=>bnd ((au 0) ls) fun d=>bM aD "is_over" 1 (aW) d (ret [])) ls) cQ) [.va (.sref i),.ow (gs.map eG),.ow (g.map eC)] (stL σ i ws num (w::r)) = .ok true (stL σ i ws num (w::r)):=by
   refine ak (ak (zH rfl h) rfl) ?_
   rw [decide_eq_false (by simp:¬(w::r=[]))]
   rfl
  have e1:=JT (num:=num) (ls:=[.va (.sref i),.ow (gs.map eG),.ow (g.map eC)]) (ms:=ao (fun ls=>bnd ((ao (fun _=>ret (.str ",")) (ao (fun _=>ret (.str "/")) (fun _=>ret []))) ls) bK) (fun _=>ret [])) (aav (a:= ",") (b:= "/") (by decide +kernel) (by decide +kernel)) rfl (fun _=>by kernel_rfl) h
  rw [dW] at e1
  have ec:∀(gs:List (List Ch)) (g:List Ch),bnd ((au 0) [.va (.sref i),.ow (gs.map eG),.ow (g.map eC)]) (fun d=>bM aD "next_choice" 1 bZ d (ret [])) (stL σ i ws num r)=X4 eC σ i ws num (cC r):=fun gs g=>Gq rfl hr
  have hcs:=zM r
  have hcl:=@QK r
  by_cases hw:w∈([",","/"]:List Str)
  ·rw [if_pos hw] at e1
   have hb:(fun ls=>bnd (m2 v7 (fun ls=>bnd ((au 0) ls) fun d=>bM aD "one_of" 2 (aX) d ((ao (fun ls=>bnd ((ao (fun _=>ret (.str ",")) (ao (fun _=>ret (.str "/")) (fun _=>ret []))) ls) bK) (fun _=>ret [])) ls)) (fun _=>ret (.str "/")) ls) jR) [.va (.sref i),.ow (gs.map eG),.ow (g.map eC)] (stL σ i ws num (w::r)) = .ok (decide (w = "/")) (stL σ i ws num r):=ak (dR (x:= .str w) (y:= .str "/") (s1:=stL σ i ws num r) (s2:=stL σ i ws num r) e1 rfl (eq_str _ _ _)) rfl
   have tail:∀(gs1:List (List Ch)) (g1:List Ch),gs1.length+g1.length≤gs.length+g.length+1→fO [.va (.sref i),.ow (gs.map eG),.ow (g.map eC)] (stL σ i ws num (w::r)) = .ok (.nx [.va (.sref i),.ow (gs1.map eG),.ow (g1.map eC)]) (stL σ i ws num r) →
     (∀c r1,cC r=(some c,r1)→Pn (m+1) gs g (w::r)=Pn m gs1 (g1++[c]) r1)→(∀r1,cC r=(none,r1)→Pn (m+1) gs g (w::r)=(none,r1)) →
     (∃gs' g',Pn (m+1) gs g (w::r)=(some (gs'++[g']),[])∧gs'.length≤5000∧fW (d7 (fun ls=>bnd ((fun ls=>bnd ((au 0) ls) fun d=>bM aD "is_over" 1 (aW) d (ret [])) ls) cQ)) dM (k+1) [.va (.sref i),.ow (gs.map eG),.ow (g.map eC)] (stL σ i ws num (w::r)) = .ok (.nx [.va (.sref i),.ow (gs'.map eG),.ow (g'.map eC)]) (stL σ i ws num [])) ∨
     (∃r',Pn (m+1) gs g (w::r)=(none,r')∧fW (d7 (fun ls=>bnd ((fun ls=>bnd ((au 0) ls) fun d=>bM aD "is_over" 1 (aW) d (ret [])) ls) cQ)) dM (k+1) [.va (.sref i),.ow (gs.map eG),.ow (g.map eC)] (stL σ i ws num (w::r)) = .exc bF (liX ws num r') (stL σ i ws num r')):=fun gs1 g1 hlen g0 hyes hno=>by
    have ec1:=ec gs1 g1
    cases epc:cC r with
    | mk o r1=>
     rw [epc] at ec1 hcs
     cases o with
     | none=>
      right
      refine ⟨r1,hno r1 epc,?_⟩
      unfold fW
      refine ak e0 ?_
      refine aC ?_
      unfold dM
      rw [aJ g0]
      unfold lJ jC
      exact aC ec1
     | some c=>
      have hl:=hcl epc
      have hs1:r1 <:+ r:=hcs
      have step:dM [.va (.sref i),.ow (gs.map eG),.ow (g.map eC)] (stL σ i ws num (w::r)) = .ok (.nx [.va (.sref i),.ow (gs1.map eG),.ow ((g1++[c]).map eC)]) (stL σ i ws num r1):=by
       unfold dM
       rw [aJ g0]
       unfold lJ
       exact Hw (ds:=g1.map eC) rfl ec1 (by rw [List.length_map];omega) |>.trans (by rw [List.map_append];rfl)
      rw [hyes c r1 epc]
      rcases ade m k gs1 (g1++[c]) r1 (by omega) (by omega) (by simp;omega) (hr.to hs1) with ⟨gs',g',a,b,d⟩ | ⟨r',a,b⟩
      ·left
       refine ⟨gs',g',a,b,?_⟩
       unfold fW
       exact ak e0 (ak step d)
      ·right
       refine ⟨r',a,?_⟩
       unfold fW
       exact ak e0 (ak step b)
   by_cases hs:w = "/"
   ·refine tail (gs++[g]) [] (by simp) ?_ (fun c r1 e=> ?_) (fun r1 e=> ?_)
    ·unfold fO
     refine ak hb ?_
     rw [decide_eq_true hs]
     rw [if_pos rfl]
     rw [aJ (Hw (ds:=gs.map eG) (d:=eG g) (s':=stL σ i ws num r) rfl (by rfl) (by rw [List.length_map];omega))]
     rw [List.map_append]
     rfl
    ·rw [rH,if_pos hs,e]
     rfl
    ·rw [rH,if_pos hs,e]
   ·have hc:w = "," :=by
     rcases List.mem_cons.mp hw with z | z
     ·exact z
     ·exact absurd (List.mem_singleton.mp z) hs
    refine tail gs g (by omega) ?_ (fun c r1 e=> ?_) (fun r1 e=> ?_)
    ·unfold fO
     refine ak hb ?_
     rw [decide_eq_false hs]
     rfl
    ·rw [rH,if_neg hs,if_pos hc,e]
    ·rw [rH,if_neg hs,if_pos hc,e]
  ·rw [if_neg hw] at e1
   have h1:w ≠ "/" :=fun z=>hw (by rw [z];simp)
   have h2:w ≠ "," :=fun z=>hw (by rw [z];simp)
   right
   refine ⟨w::r,by rw [rH,if_neg h1,if_neg h2],?_⟩
   unfold fW
   refine ak e0 ?_
   refine aC ?_
   unfold dM fO
   refine aC (aC (aC ?_))
   exact aC e1
theorem OJ:Ko (fun gs=>D.tup (gs.map eG)) (fun d=>rG [d]) pY:=fun σ i ws num r h=>by
 show bnd (vh [.va (.sref i),.un,.un]) endF _=_
 unfold vh pY
 have e:=Gq (num:=num) (ls:=[.va (.sref i),.un,.un]) rfl h
 have hs:=zM r
 cases ep:cC r with
 | mk o r1=>
  rw [ep] at e hs
  replace hs:r1 <:+ r:=hs
  cases o with
  | none=>
   refine aC (aC ?_)
   unfold jF
   refine ak (a:=[]) (s':=stL σ i ws num r) rfl ?_
   exact aC (aC (aC e))
  | some c=>
   have h1:=h.to hs
   have hl:=h1.suf.length_le
   have hl2:=h1.len
   have g0:jF [.va (.sref i),.un,.un] (stL σ i ws num r) = .ok (.nx [.va (.sref i),.ow (([]:List (List Ch)).map eG),.ow ([c].map eC)]) (stL σ i ws num r1):=by
    unfold jF
    refine ak (a:=[]) (s':=stL σ i ws num r) rfl ?_
    exact ak (a:=[eC c]) (s':=stL σ i ws num r1) (ak (ak e rfl) rfl) rfl
   dsimp only
   rcases ade (num:=num) r1.length 5000 [] [c] r1 (Nat.le_refl _) (by omega) (by simp;omega) h1 with ⟨gs',g',a,b,d⟩ | ⟨r',a,b⟩
   ·rw [a]
    refine ak (a:=Fl.rt (.tup ((gs'++[g']).map eG))) (s':=stL σ i ws num []) ?_ rfl
    rw [aJ g0,aJ (show vC _ _=_ from d)]
    unfold vO
    refine ak (a:= .tup ((gs'++[g']).map eG)) (s':=stL σ i ws num []) ?_ rfl
    refine ak (a:=(gs'++[g']).map eG) (s':=stL σ i ws num []) ?_ ?_
    ·refine ak (a:= .lst (gs'.map eG)) (s':=stL σ i ws num []) rfl ?_
     refine ak (a:=gs'.map eG) (s':=stL σ i ws num []) rfl ?_
     refine ak (a:=[eG g']) (s':=stL σ i ws num []) (by rfl) ?_
     rw [List.map_append]
     rfl
    ·rw [X5,if_pos (by rw [List.length_map,List.length_append,sizeLine_eq];simp;omega)]
   ·rw [a]
    refine aC ?_
    rw [aJ g0]
    exact aC b
theorem Xa:Ko eK (fun d=>BW [d]) CP:=fun σ i ws num r h=>by
 show bnd (Cy [.va (.sref i),.un]) endF _=_
 unfold Cy CP
 have e:=JT (num:=num) (ls:=[.va (.sref i),.un]) (ms:=ao (fun _=>ret (.raw (.ref dH))) (fun _=>ret [])) Cr rfl (fun _=>rfl) h
 have hs:=lW digs r
 cases ep:jW digs r with
 | mk o r1=>
  rw [ep] at e hs
  replace hs:r1 <:+ r:=hs
  cases o with
  | none=>
   refine aC (aC ?_)
   unfold kh
   exact aC (aC (aC e))
  | some w=>
   have h1:=h.to hs
   have g0:kh [.va (.sref i),.un] (stL σ i ws num r) = .ok (.nx [.va (.sref i),.va (.int (cU w))]) (stL σ i ws num r1):=by
    unfold kh
    refine ak (a:= .int (cU w)) (s':=stL σ i ws num r1) ?_ rfl
    exact ak (a:=[.str w]) (s':=stL σ i ws num r1) (ak e rfl) (Ax (yF ep) _)
   have hm:uY (.tup [.str "-"]) ["-"]:=aao (by decide +kernel)
   have en:(fun ls=>bnd ((fun ls=>bnd ((au 0) ls) fun d=>bM aD "is_next" 2 (dO) d ((ao (fun ls=>bnd ((ao (fun _=>ret (.str "-")) (fun _=>ret [])) ls) bK) (fun _=>ret [])) ls)) ls) cQ) [.va (.sref i),.va (.int (cU w))] (stL σ i ws num r1) = .ok (tV ["-"] r1) (stL σ i ws num r1):=by
    refine ak (a:= .bl (tV ["-"] r1)) (s':=stL σ i ws num r1) ?_ rfl
    refine ak (a:= .sref i) (s':=stL σ i ws num r1) rfl ?_
    rw [jJ (by rfl) h.i]
    refine ak (a:=[.tup [.str "-"]]) (s':=stL σ i ws num r1) (by kernel_rfl) ?_
    exact W4 hm h1
   have e2:=JT (num:=num) (ls:=[.va (.sref i),.va (.int (cU w))]) (ms:=ao (fun ls=>bnd ((ao (fun _=>ret (.str "-")) (fun _=>ret [])) ls) bK) (fun _=>ret [])) hm rfl (fun _=>by kernel_rfl) h1
   have e3:=Qu (num:=num) (ls:=[.va (.sref i),.va (.int (cU w))]) rfl h1
   dsimp only
   have neg:tV ["-"] r1=false→bnd (aR kh (aR jh pJ) [.va (.sref i),.un]) endF (stL σ i ws num r)=X4 eK σ i ws num (match tK r1 with
     | (some t,r2)=>(some (cU w,t),r2)
     | (none,r2)=>(none,r2)):=fun hb=>by
    have g1:jh [.va (.sref i),.va (.int (cU w))] (stL σ i ws num r1) = .ok (.nx [.va (.sref i),.va (.int (cU w))]) (stL σ i ws num r1):=by
     unfold jh
     refine ak en ?_
     rw [hb]
     rfl
    cases ew:tK r1 with
    | mk o2 r2=>
     rw [ew] at e3
     cases o2 with
     | none=>
      refine aC ?_
      rw [aJ g0,aJ g1]
      unfold pJ
      refine aC (aC ?_)
      refine ak (a:= .int (cU w)) (s':=stL σ i ws num r1) rfl ?_
      exact aC (aC e3)
     | some t=>
      refine ak (a:=Fl.rt (eK (cU w,t))) (s':=stL σ i ws num r2) ?_ rfl
      rw [aJ g0,aJ g1]
      unfold pJ
      refine ak (a:=eK (cU w,t)) (s':=stL σ i ws num r2) ?_ rfl
      refine ak (a:=[.int (cU w),.str t]) (s':=stL σ i ws num r2) ?_ rfl
      refine ak (a:= .int (cU w)) (s':=stL σ i ws num r1) rfl ?_
      exact ak (a:=[.str t]) (s':=stL σ i ws num r2) (ak e3 rfl) rfl
   cases r1 with
   | nil=>exact neg rfl
   | cons v r1=>
    rw [dW] at e2 ⊢
    by_cases hv:v∈(["-"]:List Str)
    ·rw [if_pos hv] at e2 ⊢
     refine ak (a:=Fl.rt (eK (cU w,""))) (s':=stL σ i ws num r1) ?_ rfl
     rw [aJ g0]
     rw [xQ,show jh [.va (.sref i),.va (.int (cU w))] (stL σ i ws num (v::r1)) = .ok (.rt (eK (cU w,""))) (stL σ i ws num r1) from by
      unfold jh
      refine ak en ?_
      rw [show tV ["-"] (v::r1)=true from decide_eq_true hv]
      rw [if_pos rfl]
      rw [aJ (show (fun ls=>bnd ((fun ls=>bnd ((au 0) ls) fun d=>bM aD "one_of" 2 (aX) d ((ao (fun ls=>bnd ((ao (fun _=>ret (.str "-")) (fun _=>ret [])) ls) bK) (fun _=>ret [])) ls)) ls) fun _=>ret (Fl.nx ls)) [.va (.sref i),.va (.int (cU w))] (stL σ i ws num (v::r1)) = .ok (Fl.nx [.va (.sref i),.va (.int (cU w))]) (stL σ i ws num r1) from ak e2 rfl)]
      kernel_rfl]
    ·rw [if_neg hv]
     exact neg (decide_eq_false hv)
theorem Vp:Ko eR (fun d=>Ao [d]) Nr:=fun σ i ws num r h=>by
 show bnd (CN [.va (.sref i),.un]) endF _=_
 unfold CN Nr
 have e:=Xa σ i ws num r h
 have hs:=Zk r
 cases ep:CP r with
 | mk o r1=>
  rw [ep] at e hs
  replace hs:r1 <:+ r:=hs
  cases o with
  | none=>
   refine aC (aC ?_)
   unfold pU
   exact aC (ak (a:=[.sref i]) (s':=stL σ i ws num r) rfl (call_of e))
  | some kk=>
   have h1:=h.to hs
   have g0:pU [.va (.sref i),.un] (stL σ i ws num r) = .ok (.nx [.va (.sref i),.va (eK kk)]) (stL σ i ws num r1):=by
    unfold pU
    exact ak (a:=eK kk) (ak (a:=[.sref i]) (s':=stL σ i ws num r) rfl (call_of e)) rfl
   have hm:uY (.tup [.str "home",.str ">"]) ["home",">"]:=aav (by decide +kernel) (by decide +kernel)
   have e2:=JT (num:=num) (ls:=[.va (.sref i),.va (eK kk)]) (ms:=ao (fun ls=>bnd ((ao (fun _=>ret (.str "home")) (ao (fun _=>ret (.str ">")) (fun _=>ret []))) ls) bK) (fun _=>ret [])) hm rfl (fun _=>by kernel_rfl) h1
   have hs2:=lW ["home",">"] r1
   dsimp only
   cases ep2:jW ["home",">"] r1 with
   | mk o2 r2=>
    rw [ep2] at e2 hs2
    replace hs2:r2 <:+ r1:=hs2
    cases o2 with
    | none=>
     refine aC ?_
     rw [aJ g0]
     refine aC ?_
     unfold jg
     exact aC (aC (aC e2))
    | some w=>
     have h2:=h1.to hs2
     have hb:(fun ls=>bnd (m2 v7 (fun ls=>bnd ((au 0) ls) fun d=>bM aD "one_of" 2 (aX) d ((ao (fun ls=>bnd ((ao (fun _=>ret (.str "home")) (ao (fun _=>ret (.str ">")) (fun _=>ret []))) ls) bK) (fun _=>ret [])) ls)) (fun _=>ret (.str "home")) ls) jR) [.va (.sref i),.va (eK kk)] (stL σ i ws num r1) = .ok (decide (w = "home")) (stL σ i ws num r2):=ak (dR (x:= .str w) (y:= .str "home") (s1:=stL σ i ws num r2) (s2:=stL σ i ws num r2) e2 rfl (eq_str _ _ _)) rfl
     dsimp only
     by_cases hw:w = "home"
     ·rw [if_pos hw]
      rw [decide_eq_true hw] at hb
      have e3:=Py (num:=num) (ls:=[.va (.sref i),.va (eK kk)]) rfl h2
      cases ep3:pOver r2 with
      | mk o3 r3=>
       rw [ep3] at e3
       cases o3 with
       | none=>
        refine aC ?_
        rw [aJ g0]
        refine aC ?_
        unfold jg
        refine ak hb ?_
        rw [if_pos rfl]
        exact aC (aC e3)
       | some u=>
        refine ak (a:=Fl.rt (eR (kk,none))) (s':=stL σ i ws num r3) ?_ rfl
        rw [aJ g0]
        rw [xQ,show jg [.va (.sref i),.va (eK kk)] (stL σ i ws num r1) = .ok (.rt (eR (kk,none))) (stL σ i ws num r3) from by
         unfold jg
         refine ak hb ?_
         rw [if_pos rfl]
         rw [aJ (show (fun ls=>bnd ((fun ls=>bnd ((au 0) ls) fun d=>bM aD "need_over" 1 (bR) d (ret [])) ls) fun _=>ret (Fl.nx ls)) [.va (.sref i),.va (eK kk)] (stL σ i ws num r2) = .ok (Fl.nx [.va (.sref i),.va (eK kk)]) (stL σ i ws num r3) from ak e3 rfl)]
         kernel_rfl]
     ·rw [if_neg hw]
      rw [decide_eq_false hw] at hb
      have e3:=OJ σ i ws num r2 h2
      have g1:jg [.va (.sref i),.va (eK kk)] (stL σ i ws num r1) = .ok (.nx [.va (.sref i),.va (eK kk)]) (stL σ i ws num r2):=ak hb rfl
      cases ep3:pY r2 with
      | mk o3 r3=>
       rw [ep3] at e3
       cases o3 with
       | none=>
        refine aC ?_
        rw [aJ g0,aJ g1]
        unfold u5
        refine aC (aC ?_)
        refine ak (a:=eK kk) (s':=stL σ i ws num r2) rfl ?_
        exact aC (aC (ak (a:=[.sref i]) (s':=stL σ i ws num r2) rfl (call_of e3)))
       | some gs=>
        refine ak (a:=Fl.rt (eR (kk,some gs))) (s':=stL σ i ws num r3) ?_ rfl
        rw [aJ g0,aJ g1]
        unfold u5
        refine ak (a:=eR (kk,some gs)) (s':=stL σ i ws num r3) ?_ rfl
        refine ak (a:=[eK kk,.tup (gs.map eG)]) (s':=stL σ i ws num r3) ?_ rfl
        refine ak (a:=eK kk) (s':=stL σ i ws num r2) rfl ?_
        exact ak (a:=[.tup (gs.map eG)]) (s':=stL σ i ws num r3) (ak (ak (a:=[.sref i]) (s':=stL σ i ws num r2) rfl (call_of e3)) rfl) rfl
end
end PV.Law
namespace PV
open PySem PySem.W PySem.Calls PyProof.Rows L2
def ChT (c:Ch):Prop:=∀x∈c.2,PyData.strOk x=true
def Tt (r:Rw):Prop:=PyData.strOk r.1.2=true∧∀gs,r.2=some gs→∀g∈gs,∀c∈g,ChT c
theorem Qo:∀{gs:List (List Ch)},(∀g∈gs,∀c∈g,ChT c)→PyData.canLayAll0 (gs.map pG)=true∧PyData.depthAll (gs.map pG)≤3
 | [],_=>⟨rfl,by simp [PyData.depthAll]⟩
 | g::gs,h=>by
  obtain ⟨h1,h2⟩:=Qo (gs:=gs) fun g hg=>h g (List.mem_cons_of_mem _ hg)
  have a:=wD (g:=g) (h g List.mem_cons_self)
  have b:=qI g
  rw [List.map_cons,PyData.canLayAll0,PyData.depthAll,h1]
  refine ⟨?_,?_⟩
  ·show (PyData.canLay0 (pG g)&&true)=true
   unfold pG
   rw [PyData.canLay0,a]
   rfl
  ·unfold pG
   rw [PyData.depth]
   unfold pG at h2
   omega
theorem acu {r:Rw}(h:Tt r):PyData.canLay0 (pR r)=true∧(pR r).depth≤5:=by
 obtain ⟨⟨a,t⟩,gs⟩:=r
 obtain ⟨h1,h2⟩:=h
 have h1:PyData.strOk t=true:=h1
 have hk:PyData.canLay0 (pK (a,t))=true∧(pK (a,t)).depth≤1:=by
  unfold pK
  rw [PyData.canLay0,PyData.canLayAll0,PyData.canLayAll0,PyData.canLayAll0,PyData.canLay0,PyData.canLay0,h1,PyData.depth,PyData.depthAll,PyData.depthAll,PyData.depthAll,PyData.depth,PyData.depth]
  exact ⟨rfl,by simp⟩
 have hg:PyData.canLay0 (Pq gs)=true∧(Pq gs).depth≤4:=by
  cases gs with
  | none=>exact ⟨by decide +kernel,by simp [Pq,PyData.depth]⟩
  | some gs=>
   obtain ⟨a,b⟩:=Qo (h2 gs rfl)
   unfold Pq
   dsimp only
   rw [PyData.canLay0,PyData.depth]
   exact ⟨a,by omega⟩
 unfold pR
 rw [PyData.canLay0,PyData.canLayAll0,PyData.canLayAll0,PyData.canLayAll0,PyData.depth,PyData.depthAll,PyData.depthAll,PyData.depthAll,hk.1,hg.1]
 refine ⟨rfl,?_⟩
 have:=hk.2
 have:=hg.2
 dsimp only at *
 omega
theorem KY:∀{rs:List Rw},(∀r∈rs,Tt r)→PyData.canLayAll0 (rs.map pR)=true∧PyData.depthAll (rs.map pR)≤5
 | [],_=>⟨rfl,by simp [PyData.depthAll]⟩
 | r::rs,h=>by
  obtain ⟨a,b⟩:=KY (rs:=rs) fun r hr=>h r (List.mem_cons_of_mem _ hr)
  obtain ⟨c,d⟩:=acu (h r List.mem_cons_self)
  rw [List.map_cons,PyData.canLayAll0,PyData.depthAll,a,c]
  exact ⟨rfl,by omega⟩
theorem Ox {rs:List Rw}(h:∀r∈rs,Tt r) (s:DS):Jx (.lst (rs.map eR)) (.lst []) s = .ok (.bl (!decide (rs=[]))) s:=by
 obtain ⟨a,b⟩:=KY h
 have e1:D.pd (.lst (rs.map eR))=some (.list (rs.map pR)):=by
  show (D.tM (rs.map eR)).map PyData.list=_
  rw [fU (g:=pR) _ Zz]
  rfl
 show K7 (D.pd (.lst (rs.map eR))) (some (PyData.list [])) _ s=_
 rw [e1]
 have s1:SeqAt.shaped (.list (rs.map pR))=true:=by
  unfold SeqAt.shaped
  rw [PyData.canLay0,a,PyData.depth]
  simp
  omega
 show (if SeqAt.shaped (.list (rs.map pR))=true∧SeqAt.shaped (.list [])=true then ret (D.bl (!PyData.eqv (.list (rs.map pR)) (.list []))) else stk:M D) s=_
 rw [if_pos ⟨s1,by decide +kernel⟩,PyData.eqv]
 cases rs<;>rfl
def pP (p:Int×Int):PyData:= .tuple [.int p.1,.int p.2]
theorem Kr:∀(ps:List (Int×Int)),PyData.canLayAll0 (ps.map pP)=true∧PyData.depthAll (ps.map pP)≤1
 | []=>⟨rfl,by simp [PyData.depthAll]⟩
 | p::ps=>by
  obtain ⟨a,b⟩:=Kr ps
  rw [List.map_cons,PyData.canLayAll0,PyData.depthAll,a]
  refine ⟨?_,?_⟩
  ·unfold pP
   rw [PyData.canLay0,PyData.canLayAll0,PyData.canLayAll0,PyData.canLayAll0,PyData.canLay0,PyData.canLay0]
   rfl
  ·unfold pP
   rw [PyData.depth,PyData.depthAll,PyData.depthAll,PyData.depthAll,PyData.depth,PyData.depth]
   unfold pP at b
   simp
   omega
theorem Bh (ps:List (Int×Int)) (s:DS):v7 (.lst (ps.map eP)) (.lst []) s = .ok (.bl (decide (ps=[]))) s:=by
 obtain ⟨a,b⟩:=Kr ps
 have e1:D.pd (.lst (ps.map eP))=some (.list (ps.map pP)):=by
  show (D.tM (ps.map eP)).map PyData.list=_
  rw [fU (g:=pP) _ (fun _=>rfl)]
  rfl
 show K7 (D.pd (.lst (ps.map eP))) (some (PyData.list [])) _ s=_
 rw [e1]
 have s1:SeqAt.shaped (.list (ps.map pP))=true:=by
  unfold SeqAt.shaped
  rw [PyData.canLay0,a,PyData.depth]
  simp
  omega
 show (if SeqAt.shaped (.list (ps.map pP))=true∧SeqAt.shaped (.list [])=true then ret (D.bl (PyData.eqv (.list (ps.map pP)) (.list []))) else stk:M D) s=_
 rw [if_pos ⟨s1,by decide +kernel⟩,PyData.eqv]
 cases ps<;>rfl
theorem HS {r r1:List Str}{c:Ch}(h:cC r=(some c,r1)):ChT c:=by
 unfold cC at h
 cases ep:jW digs r with
 | mk o r2=>
  rw [ep] at h
  cases o with
  | none=>cases h
  | some w=>
   cases h
   exact fun x hx=>sE (List.all_eq_true.mp (List.all_takeWhile (p:=isW) (l:=r2)) x hx)
theorem abX:∀(m:Nat) (gs:List (List Ch)) (g:List Ch) (r:List Str) {L:List (List Ch)}{r':List Str},(∀g∈gs,∀c∈g,ChT c)→(∀c∈g,ChT c)→Pn m gs g r=(some L,r')→∀g∈L,∀c∈g,ChT c
 | m,gs,g,[],L,r',h1,h2,e=>by
  rw [Xh] at e
  cases e
  intro x hx
  rcases List.mem_append.mp hx with z | z
  ·exact h1 x z
  ·rw [List.mem_singleton.mp z];exact h2
 | 0,gs,g,w::r,L,r',h1,h2,e=>by cases e
 | m+1,gs,g,w::r,L,r',h1,h2,e=>by
  rw [rH] at e
  cases epc:cC r with
  | mk o r1=>
   rw [epc] at e
   by_cases hs:w = "/"
   ·rw [if_pos hs] at e
    cases o with
    | none=>cases e
    | some c=>
     refine abX m (gs++[g]) [c] r1 (fun x hx=> ?_) (fun x hx=> ?_) e
     ·rcases List.mem_append.mp hx with z | z
      ·exact h1 x z
      ·rw [List.mem_singleton.mp z];exact h2
     ·rw [List.mem_singleton.mp hx];exact HS epc
   ·rw [if_neg hs] at e
    by_cases hc:w = ","
    ·rw [if_pos hc] at e
     cases o with
     | none=>cases e
     | some c=>
      refine abX m gs (g++[c]) r1 h1 (fun x hx=> ?_) e
      rcases List.mem_append.mp hx with z | z
      ·exact h2 x z
      ·rw [List.mem_singleton.mp z];exact HS epc
    ·rw [if_neg hc] at e
     cases e
theorem Xl {r r':List Str}{L:List (List Ch)}(h:pY r=(some L,r')):∀g∈L,∀c∈g,ChT c:=by
 unfold pY at h
 cases epc:cC r with
 | mk o r1=>
  rw [epc] at h
  cases o with
  | none=>cases h
  | some c=>exact abX _ [] [c] r1 (by simp) (fun x hx=>by rw [List.mem_singleton.mp hx];exact HS epc) h
theorem aa8 {r r1:List Str}{w:Str}(h:tK r=(some w,r1)):isW w=true:=by
 cases r with
 | nil=>cases h
 | cons x r=>
  rw [pZ] at h
  by_cases hx:isW x=true
  ·rw [if_pos hx] at h;cases h;exact hx
  ·rw [if_neg hx] at h;cases h
theorem aat {r r1:List Str}{k:Int×Str}(h:CP r=(some k,r1)):PyData.strOk k.2=true:=by
 unfold CP at h
 cases ep:jW digs r with
 | mk o r2=>
  rw [ep] at h
  cases o with
  | none=>cases h
  | some w=>
   dsimp only at h
   cases e2:jW ["-"] r2 with
   | mk o2 r3=>
    rw [e2] at h
    cases o2 with
    | some x=>cases h;exact (by decide +kernel:PyData.strOk "" = true)
    | none=>
     dsimp only at h
     cases e3:tK r2 with
     | mk o3 r4=>
      rw [e3] at h
      cases o3 with
      | none=>cases h
      | some t=>cases h;exact sE (aa8 e3)
theorem adh {r r1:List Str}{q:Rw}(h:Nr r=(some q,r1)):Tt q:=by
 unfold Nr at h
 cases ek:CP r with
 | mk o r2=>
  rw [ek] at h
  cases o with
  | none=>cases h
  | some k=>
   dsimp only at h
   cases e2:jW ["home",">"] r2 with
   | mk o2 r3=>
    rw [e2] at h
    cases o2 with
    | none=>cases h
    | some w=>
     dsimp only at h
     by_cases hw:w = "home"
     ·rw [if_pos hw] at h
      cases e3:pOver r3 with
      | mk o3 r4=>
       rw [e3] at h
       cases o3 with
       | none=>cases h
       | some u=>cases h;exact ⟨aat ek,fun gs z=>nomatch z⟩
     ·rw [if_neg hw] at h
      cases e3:pY r3 with
      | mk o3 r4=>
       rw [e3] at h
       cases o3 with
       | none=>cases h
       | some gs=>cases h;exact ⟨aat ek,fun gs' z=>by cases z;exact Xl e3⟩
end PV
namespace PV.Law
open PySem PySem.W PySem.Calls PyProof.Rows L2 PV
def DN (σ σ':DS):Prop:=∃L:List Th,σ'={ σ with objs:=σ.objs++L}∧∀t∈L,∀n,t.old n=true
theorem DN.refl (σ:DS):DN σ σ:=⟨[],by rw [List.append_nil],by simp⟩
theorem DN.trans {a b c:DS}(h:DN a b) (h2:DN b c):DN a c:=by
 obtain ⟨L,rfl,h⟩:=h
 obtain ⟨M,rfl,h2⟩:=h2
 refine ⟨L++M,by simp,fun t ht=> ?_⟩
 rcases List.mem_append.mp ht with z | z
 ·exact h t z
 ·exact h2 t z
theorem DN.line (σ:DS) (x:Str) (k:Int) (r:List Str):DN σ (stN σ x (.int k) r):=by
 refine ⟨[.ins aD (Vw (cI x) (.int k) ((cI x).length-r.length))],?_,fun t ht n=> ?_⟩
 ·rw [←HY];rfl
 ·rw [List.mem_singleton.mp ht];exact V3 _ _ _ _
theorem DN.spot {σ σ':DS}(h:DN σ σ'):σ'.spot=σ.spot:=by
 obtain ⟨L,rfl,_⟩:=h
 rfl
theorem DN.take {σ σ':DS}(h:DN σ σ'):σ'.objs.take σ.objs.length=σ.objs:=by
 obtain ⟨L,rfl,_⟩:=h
 simp
theorem DN.back {σ σ':DS}(h:DN σ σ'):{ σ' with objs:=σ.objs}=σ:=by
 obtain ⟨L,rfl,_⟩:=h
 rfl
section
variable {σ:DS}{i:Nat}{ws r r':List Str}{num dS:D}{w:Str}{S:List Str}
theorem NZ:Ko eW (fun d=>oH [d]) uU:=fun σ i ws num r h=>by
 show bnd (uN [.va (.sref i),.un]) endF _=_
 unfold uN uU
 have e:=JT (num:=num) (ls:=[.va (.sref i),.un]) (ms:=ao (fun ls=>bnd ((ao (fun _=>ret (.str "labels")) (fun _=>ret [])) ls) bK) (fun _=>ret [])) (aao (a:= "labels") (by decide +kernel)) rfl (fun _=>by kernel_rfl) h
 have hs:=lW ["labels"] r
 cases ep:jW ["labels"] r with
 | mk o r1=>
  rw [ep] at e hs
  replace hs:r1 <:+ r:=hs
  cases o with
  | none=>exact aC (aC (aC e))
  | some w=>
   have h1:=h.to hs
   have g0:vH [.va (.sref i),.un] (stL σ i ws num r) = .ok (.nx [.va (.sref i),.un]) (stL σ i ws num r1):=ak e rfl
   have e2:=Qu (num:=num) (ls:=[.va (.sref i),.un]) rfl h1
   have hs2:=Mq r1
   dsimp only
   cases ep2:tK r1 with
   | mk o2 r2=>
    rw [ep2] at e2 hs2
    replace hs2:r2 <:+ r1:=hs2
    cases o2 with
    | none=>
     refine aC ?_
     rw [aJ g0]
     refine aC ?_
     unfold jE
     exact aC (aC (aC e2))
    | some x=>
     have h2:=h1.to hs2
     have e3:=V4 (num:=num) (ls:=[.va (.sref i),.un]) rfl h2
     have h3:=h2.to (QG r2)
     have hl:=h2.suf.length_le
     have hz:=h2.len
     have htw:(r2.takeWhile isW).length≤r2.length:=(List.takeWhile_prefix (p:=isW) (l:=r2)).length_le
     have g1:jE [.va (.sref i),.un] (stL σ i ws num r1) = .ok (.nx [.va (.sref i),.va (eW (x::r2.takeWhile isW))]) (stL σ i ws num (r2.dropWhile isW)):=by
      unfold jE
      refine ak (a:=eW (x::r2.takeWhile isW)) (s':=stL σ i ws num (r2.dropWhile isW)) ?_ rfl
      refine ak (a:=D.str x::(r2.takeWhile isW).map D.str) (s':=stL σ i ws num (r2.dropWhile isW)) ?_ ?_
      ·refine ak e2 ?_
       refine ak (a:=(r2.takeWhile isW).map D.str) (s':=stL σ i ws num (r2.dropWhile isW)) ?_ rfl
       refine ak e3 ?_
       refine ak (a:=(r2.takeWhile isW).map D.str) (s':=stL σ i ws num (r2.dropWhile isW)) rfl ?_
       refine ak (a:=[]) (s':=stL σ i ws num (r2.dropWhile isW)) rfl ?_
       rw [List.append_nil]
      ·rw [X5,if_pos (by rw [List.length_cons,List.length_map,sizeLine_eq];omega)]
       rfl
     have e4:=Py (num:=num) (ls:=[.va (.sref i),.va (eW (x::r2.takeWhile isW))]) rfl h3
     dsimp only
     cases ep4:pOver (r2.dropWhile isW) with
     | mk o4 r4=>
      rw [ep4] at e4
      cases o4 with
      | none=>
       refine aC ?_
       rw [aJ g0,aJ g1]
       exact aC (aC e4)
      | some u=>
       refine ak (a:=Fl.rt (eW (x::r2.takeWhile isW))) (s':=stL σ i ws num r4) ?_ rfl
       rw [aJ g0,aJ g1,aJ (show vB _ _ = .ok (.nx [.va (.sref i),.va (eW (x::r2.takeWhile isW))]) (stL σ i ws num r4) from ak e4 rfl)]
       rfl
end
abbrev g8 (T:D) (lines:List Str) (labels:List Str) (roads:List (Int×Int)) (rows:List Rw) (l:List Sl):List Sl:= .va T :: .va (.lst (lines.map .str)) :: .va (eW labels) :: .ow (roads.map eP) :: .ow (rows.map eR)::l
theorem abT (roads:List (Int×Int)) (rows:List Rw):∀y∈yN roads rows,pA y:=by
 unfold yN
 split
 ·exact (by decide +kernel:∀y∈(["road"]:List Str),pA y)
 ·split
  ·exact (by decide +kernel:∀y∈(["road","row"]:List Str),pA y)
  ·exact (by decide +kernel:∀y∈(["row"]:List Str),pA y)
theorem adl {T:D}{lines labels:List Str}{roads:List (Int×Int)}{rows:List Rw}{l:List Sl}(hr:∀r∈rows,Tt r) (s:DS) :
  (ao (Jf (fun ls=>bnd (m2 v7 (iU 3) (mL (fun ls=>bnd ((fun _=>ret []) ls) eX)) ls) jR) (fun ls=>bnd ((ao (fun _=>ret (.str "road")) (fun _=>ret [])) ls) bK) (Jf (fun ls=>bnd (m2 Jx (iU 4) (mL (fun ls=>bnd ((fun _=>ret []) ls) eX)) ls) jR) (fun ls=>bnd ((ao (fun _=>ret (.str "row")) (fun _=>ret [])) ls) bK) (fun ls=>bnd ((ao (fun _=>ret (.str "road")) (ao (fun _=>ret (.str "row")) (fun _=>ret []))) ls) bK))) (fun _=>ret [])) (g8 T lines labels roads rows l) s = .ok [.tup ((yN roads rows).map .str)] s:=by
 refine ak (a:= .tup ((yN roads rows).map .str)) (s':=s) ?_ rfl
 have e1:(fun ls=>bnd (m2 v7 (iU 3) (mL (fun ls=>bnd ((fun _=>ret []) ls) eX)) ls) jR) (g8 T lines labels roads rows l) s = .ok (decide (roads=[])) s:=ak (dR (x:= .lst (roads.map eP)) (y:= .lst []) (s1:=s) (s2:=s) rfl rfl (Bh _ _)) rfl
 have e2:(fun ls=>bnd (m2 Jx (iU 4) (mL (fun ls=>bnd ((fun _=>ret []) ls) eX)) ls) jR) (g8 T lines labels roads rows l) s = .ok (!decide (rows=[])) s:=ak (dR (x:= .lst (rows.map eR)) (y:= .lst []) (s1:=s) (s2:=s) rfl rfl (Ox hr _)) rfl
 unfold yN
 refine ak e1 ?_
 by_cases h1:roads=[]
 ·rw [decide_eq_true h1,if_pos h1]
  kernel_rfl
 ·rw [decide_eq_false h1,if_neg h1]
  refine ak e2 ?_
  by_cases h2:rows=[]
  ·rw [decide_eq_true h2,if_pos h2]
   kernel_rfl
  ·rw [decide_eq_false h2,if_neg h2]
   kernel_rfl
theorem abf {T:D}{lines labels:List Str}{roads:List (Int×Int)}{rows:List Rw}{k:Nat}{x:Str}{x7 x8:Sl}(hr:∀r∈rows,Tt r) (hx:pA x) (hl:x.length≤3900) (hn:roads.length≤10000∧rows.length≤10000) (τ:DS) :
  ∃τ',DN τ τ'∧match Eh (yN roads rows) (cI x) with
  | (some (.inl p),_)=>∃y7 y8,bO (g8 T lines labels roads rows [.va (.int (k:Int)),.va (.str x),x7,x8]) τ = .ok (.nx (g8 T lines labels (roads++[p]) rows [.va (.int (k:Int)),.va (.str x),y7,y8])) τ'
  | (some (.inr q),_)=>Tt q∧∃y7 y8,bO (g8 T lines labels roads rows [.va (.int (k:Int)),.va (.str x),x7,x8]) τ = .ok (.nx (g8 T lines labels roads (rows++[q]) [.va (.int (k:Int)),.va (.str x),y7,y8])) τ'
  | (none,r)=>bO (g8 T lines labels roads rows [.va (.int (k:Int)),.va (.str x),x7,x8]) τ = .exc bF [("word",.int (((cI x).length-r.length:Nat):Int)),("line",.int ((k+1:Nat):Int))] τ':=by
 have hn0:=Ku hx (by omega) τ
 have g0:mJ (g8 T lines labels roads rows [.va (.int (k:Int)),.va (.str x),x7,x8]) τ = .ok (.nx (g8 T lines labels roads rows [.va (.int (k:Int)),.va (.str x),.va (.sref τ.objs.length),x8])) (stN τ x (.int ((k+1:Nat):Int)) (cI x)):=by
  unfold mJ
  refine ak (a:= .sref τ.objs.length) (s':=stN τ x (.int ((k+1:Nat):Int)) (cI x)) ?_ rfl
  refine ak (a:=[.str x,.int ((k+1:Nat):Int)]) (s':=τ) rfl ?_
  exact Qa (num:= .int ((k+1:Nat):Int)) (x:=x) (by omega) τ
 have hS:=Ih (abT roads rows)
 have e1:∀(x8:Sl),bnd ((au 7) (g8 T lines labels roads rows [.va (.int (k:Int)),.va (.str x),.va (.sref τ.objs.length),x8])) (fun d=>bM aD "one_of" 2 aX d ((ao (Jf (fun ls=>bnd (m2 v7 (iU 3) (mL (fun ls=>bnd ((fun _=>ret []) ls) eX)) ls) jR) (fun ls=>bnd ((ao (fun _=>ret (.str "road")) (fun _=>ret [])) ls) bK) (Jf (fun ls=>bnd (m2 Jx (iU 4) (mL (fun ls=>bnd ((fun _=>ret []) ls) eX)) ls) jR) (fun ls=>bnd ((ao (fun _=>ret (.str "row")) (fun _=>ret [])) ls) bK) (fun ls=>bnd ((ao (fun _=>ret (.str "road")) (ao (fun _=>ret (.str "row")) (fun _=>ret []))) ls) bK))) (fun _=>ret [])) (g8 T lines labels roads rows [.va (.int (k:Int)),.va (.str x),.va (.sref τ.objs.length),x8]))) (stN τ x (.int ((k+1:Nat):Int)) (cI x))=X4 D.str (τ.push (.ins aD [])) τ.objs.length (cI x) (.int ((k+1:Nat):Int)) (jW (yN roads rows) (cI x)):=fun x8=>by
  refine ak (a:= .sref τ.objs.length) (s':=stN τ x (.int ((k+1:Nat):Int)) (cI x)) rfl ?_
  unfold stN
  rw [jJ (by rfl) hn0.i]
  refine ak (a:=[.tup ((yN roads rows).map .str)]) (adl hr _) ?_
  exact call_of (Vd hS _ _ _ _ _ hn0)
 have hs:=lW (yN roads rows) (cI x)
 unfold Eh
 cases ep:jW (yN roads rows) (cI x) with
 | mk o r1=>
  have e1:=e1 x8
  rw [ep] at e1 hs
  replace hs:r1 <:+ cI x:=hs
  cases o with
  | none=>
   refine ⟨_,DN.line τ x ((k+1:Nat):Int) r1,?_⟩
   show bO _ τ=_
   unfold bO
   rw [aJ g0]
   refine aC ?_
   unfold je
   exact aC e1
  | some w=>
   have h1:=hn0.to hs
   have g1:je (g8 T lines labels roads rows [.va (.int (k:Int)),.va (.str x),.va (.sref τ.objs.length),x8]) (stN τ x (.int ((k+1:Nat):Int)) (cI x)) = .ok (.nx (g8 T lines labels roads rows [.va (.int (k:Int)),.va (.str x),.va (.sref τ.objs.length),.va (.str w)])) (stN τ x (.int ((k+1:Nat):Int)) r1):=by
    unfold je
    exact ak e1 rfl
   have hb:(fun ls=>bnd (m2 v7 (au 8) (fun _=>ret (.str "road")) ls) jR) (g8 T lines labels roads rows [.va (.int (k:Int)),.va (.str x),.va (.sref τ.objs.length),.va (.str w)]) (stN τ x (.int ((k+1:Nat):Int)) r1) = .ok (decide (w = "road")) (stN τ x (.int ((k+1:Nat):Int)) r1):=ak (dR (x:= .str w) (y:= .str "road") rfl rfl (eq_str _ _ _)) rfl
   dsimp only
   by_cases hw:w = "road"
   ·rw [if_pos hw]
    rw [decide_eq_true hw] at hb
    have one:∀r,LnOk (τ.push (.ins aD [])) τ.objs.length (cI x) r→bnd ((au 7) (g8 T lines labels roads rows [.va (.int (k:Int)),.va (.str x),.va (.sref τ.objs.length),.va (.str w)])) (fun d=>bM aD "one_of" 2 aX d ((ao (fun _=>ret (.raw (.ref dH))) (fun _=>ret [])) (g8 T lines labels roads rows [.va (.int (k:Int)),.va (.str x),.va (.sref τ.objs.length),.va (.str w)]))) (stN τ x (.int ((k+1:Nat):Int)) r)=X4 D.str (τ.push (.ins aD [])) τ.objs.length (cI x) (.int ((k+1:Nat):Int)) (jW digs r):=fun r h=>by
     refine ak (a:= .sref τ.objs.length) (s':=stN τ x (.int ((k+1:Nat):Int)) r) rfl ?_
     unfold stN
     rw [jJ (by rfl) h.i]
     refine ak (a:=[.raw (.ref dH)]) rfl ?_
     exact call_of (Vd Cr _ _ _ _ _ h)
    have t1:=one r1 h1
    have hs2:=lW digs r1
    unfold RB
    cases ep2:jW digs r1 with
    | mk o2 r2=>
     rw [ep2] at t1 hs2
     replace hs2:r2 <:+ r1:=hs2
     cases o2 with
     | none=>
      refine ⟨_,DN.line τ x ((k+1:Nat):Int) r2,?_⟩
      show bO _ τ=_
      unfold bO
      rw [aJ g0,aJ g1]
      unfold dX
      refine ak hb ?_
      rw [if_pos rfl]
      refine aC ?_
      show jC 3 _ _ _=_
      unfold jC
      exact aC (aC (aC (aC (aC t1))))
     | some a=>
      have h2:=h1.to hs2
      have t2:=one r2 h2
      have hs3:=lW digs r2
      have i1:(fun ls=>bnd ((ao (fun ls=>bnd ((au 7) ls) fun d=>bM aD "one_of" 2 (aX) d ((ao (fun _=>ret (.raw (.ref dH))) (fun _=>ret [])) ls)) (fun _=>ret [])) ls) gR) (g8 T lines labels roads rows [.va (.int (k:Int)),.va (.str x),.va (.sref τ.objs.length),.va (.str w)]) (stN τ x (.int ((k+1:Nat):Int)) r1) = .ok (.int (cU a)) (stN τ x (.int ((k+1:Nat):Int)) r2):=ak (a:=[.str a]) (ak t1 rfl) (Ax (yF ep2) _)
      dsimp only
      cases ep3:jW digs r2 with
      | mk o3 r3=>
       rw [ep3] at t2 hs3
       replace hs3:r3 <:+ r2:=hs3
       cases o3 with
       | none=>
        refine ⟨_,DN.line τ x ((k+1:Nat):Int) r3,?_⟩
        show bO _ τ=_
        unfold bO
        rw [aJ g0,aJ g1]
        unfold dX
        refine ak hb ?_
        rw [if_pos rfl]
        refine aC ?_
        show jC 3 _ _ _=_
        unfold jC
        refine aC (aC ?_)
        refine ak i1 ?_
        exact aC (aC (aC (aC t2)))
       | some b=>
        have h3:=h2.to hs3
        have i2:(fun ls=>bnd ((ao (fun ls=>bnd ((au 7) ls) fun d=>bM aD "one_of" 2 (aX) d ((ao (fun _=>ret (.raw (.ref dH))) (fun _=>ret [])) ls)) (fun _=>ret [])) ls) gR) (g8 T lines labels roads rows [.va (.int (k:Int)),.va (.str x),.va (.sref τ.objs.length),.va (.str w)]) (stN τ x (.int ((k+1:Nat):Int)) r2) = .ok (.int (cU b)) (stN τ x (.int ((k+1:Nat):Int)) r3):=ak (a:=[.str b]) (ak t2 rfl) (Ax (yF ep3) _)
        have ga:jC 3 (fun ls=>bnd ((ao (fun ls=>bnd ((ao (fun ls=>bnd ((au 7) ls) fun d=>bM aD "one_of" 2 (aX) d ((ao (fun _=>ret (.raw (.ref dH))) (fun _=>ret [])) ls)) (fun _=>ret [])) ls) gR) (ao (fun ls=>bnd ((ao (fun ls=>bnd ((au 7) ls) fun d=>bM aD "one_of" 2 (aX) d ((ao (fun _=>ret (.raw (.ref dH))) (fun _=>ret [])) ls)) (fun _=>ret [])) ls) gR) (fun _=>ret []))) ls) bK) (g8 T lines labels roads rows [.va (.int (k:Int)),.va (.str x),.va (.sref τ.objs.length),.va (.str w)]) (stN τ x (.int ((k+1:Nat):Int)) r1) = .ok (.nx (g8 T lines labels (roads++[(cU a,cU b)]) rows [.va (.int (k:Int)),.va (.str x),.va (.sref τ.objs.length),.va (.str w)])) (stN τ x (.int ((k+1:Nat):Int)) r3):=by
         refine (Hw (ds:=roads.map eP) (d:=eP (cU a,cU b)) (s':=stN τ x (.int ((k+1:Nat):Int)) r3) rfl ?_ (by rw [List.length_map];omega)).trans (by unfold g8;rw [List.map_append];rfl)
         refine ak (a:=[.int (cU a),.int (cU b)]) (s':=stN τ x (.int ((k+1:Nat):Int)) r3) ?_ rfl
         exact ak i1 (ak (ak i2 rfl) rfl)
        have t3:bnd ((au 7) (g8 T lines labels (roads++[(cU a,cU b)]) rows [.va (.int (k:Int)),.va (.str x),.va (.sref τ.objs.length),.va (.str w)])) (fun d=>bM aD "need_over" 1 bR d (ret [])) (stN τ x (.int ((k+1:Nat):Int)) r3)=X4 (fun _:Unit=>D.non) (τ.push (.ins aD [])) τ.objs.length (cI x) (.int ((k+1:Nat):Int)) (pOver r3):=by
         refine ak (a:= .sref τ.objs.length) (s':=stN τ x (.int ((k+1:Nat):Int)) r3) rfl ?_
         unfold stN
         rw [jJ (by rfl) h3.i]
         exact call_of (Xv _ _ _ _ _ h3)
        dsimp only
        cases ep4:pOver r3 with
        | mk o4 r4=>
         rw [ep4] at t3
         refine ⟨_,DN.line τ x ((k+1:Nat):Int) r4,?_⟩
         cases o4 with
         | none=>
          show bO _ τ=_
          unfold bO
          rw [aJ g0,aJ g1]
          unfold dX
          refine ak hb ?_
          rw [if_pos rfl,aJ ga]
          exact aC t3
         | some u=>
          refine ⟨.va (.sref τ.objs.length),.va (.str w),?_⟩
          unfold bO
          rw [aJ g0,aJ g1]
          unfold dX
          refine ak hb ?_
          rw [if_pos rfl,aJ ga]
          exact ak t3 rfl
   ·rw [if_neg hw]
    rw [decide_eq_false hw] at hb
    have t1:=Vp _ _ _ (.int ((k+1:Nat):Int)) _ h1
    cases ep2:Nr r1 with
    | mk o2 r2=>
     rw [ep2] at t1
     refine ⟨_,DN.line τ x ((k+1:Nat):Int) r2,?_⟩
     cases o2 with
     | none=>
      show bO _ τ=_
      unfold bO
      rw [aJ g0,aJ g1]
      unfold dX
      refine ak hb ?_
      rw [if_neg (by decide)]
      unfold jC
      refine aC ?_
      refine ak (a:=[.sref τ.objs.length]) (s':=stN τ x (.int ((k+1:Nat):Int)) r1) rfl ?_
      exact call_of t1
     | some q=>
      refine ⟨adh ep2,.va (.sref τ.objs.length),.va (.str w),?_⟩
      unfold bO
      rw [aJ g0,aJ g1]
      unfold dX
      refine ak hb ?_
      rw [if_neg (by decide)]
      refine (Hw (ds:=rows.map eR) (d:=eR q) (s':=stN τ x (.int ((k+1:Nat):Int)) r2) rfl ?_ (by rw [List.length_map];omega)).trans (by unfold g8;rw [List.map_append];rfl)
      refine ak (a:=[.sref τ.objs.length]) (s':=stN τ x (.int ((k+1:Nat):Int)) r1) rfl ?_
      exact call_of t1
theorem QZ (n:Nat) (x:D) (xs:List D):jB n (x::xs) = .tup [.int (n:Int),x]::jB (n+1) xs:=by
 rw [Bf,Bf]
 simp [List.zipIdx_cons]
theorem KQ {T:D}{lines labels:List Str}:∀(ls:List Str) (k:Nat) (roads:List (Int×Int)) (rows:List Rw) (l:List Sl) (τ:DS),l.length=4→(∀r∈rows,Tt r)→(∀x∈ls,pA x∧x.length≤3900)→roads.length+ls.length≤10000→rows.length+ls.length≤10000 →
  ∃τ',DN τ τ'∧match oU (k+1) roads rows ls with
  | .inl (a,b)=>fH (jY 2 (cG (gQ 5) (cG (gQ 6) lY))) bO (jB k (ls.map .str)) (g8 T lines labels roads rows l) τ = .exc bF [("word",.int (b:Int)),("line",.int (a:Int))] τ'
  | .inr (rs,qs)=>∃l',fH (jY 2 (cG (gQ 5) (cG (gQ 6) lY))) bO (jB k (ls.map .str)) (g8 T lines labels roads rows l) τ = .ok (.nx (g8 T lines labels rs qs l')) τ'
 | [],k,roads,rows,l,τ,hl,hr,hx,h1,h2=>⟨τ,DN.refl τ,l,rfl⟩
 | x::ls,k,roads,rows,l,τ,hl,hr,hx,h1,h2=>by
  obtain ⟨x5,x6,x7,x8,rfl⟩:∃x5 x6 x7 x8,l=[x5,x6,x7,x8]:=match l,hl with
   | [a,b,c,d],_=>⟨a,b,c,d,rfl⟩
  simp only [List.length_cons] at h1 h2
  obtain ⟨o1,o2⟩:=hx x List.mem_cons_self
  obtain ⟨τ1,w1,hm⟩:=abf (T:=T) (lines:=lines) (labels:=labels) (roads:=roads) (rows:=rows) (k:=k) (x:=x) (x7:=x7) (x8:=x8) hr o1 o2 ⟨by omega,by omega⟩ τ
  have e0:jY 2 (cG (gQ 5) (cG (gQ 6) lY)) (.tup [.int (k:Int),.str x]) (g8 T lines labels roads rows [x5,x6,x7,x8])=some (g8 T lines labels roads rows [.va (.int (k:Int)),.va (.str x),x7,x8]):=rfl
  rw [List.map_cons,QZ,fH,e0]
  dsimp only
  unfold oU
  cases ep:Eh (yN roads rows) (cI x) with
  | mk o r=>
   rw [ep] at hm
   cases o with
   | none=>exact ⟨τ1,w1,aC hm⟩
   | some v=>
    cases v with
    | inl p=>
     obtain ⟨y7,y8,hm⟩:=hm
     obtain ⟨τ2,w2,ih⟩:=KQ (T:=T) (lines:=lines) (labels:=labels) ls (k+1) (roads++[p]) rows [.va (.int (k:Int)),.va (.str x),y7,y8] τ1 rfl hr (fun y hy=>hx y (List.mem_cons_of_mem _ hy)) (by simp;omega) (by omega)
     refine ⟨τ2,w1.trans w2,?_⟩
     dsimp only
     cases epl:oU (k+1+1) (roads++[p]) rows ls with
     | inl e=>rw [epl] at ih;exact ak hm ih
     | inr e=>
      rw [epl] at ih
      obtain ⟨l',ih⟩:=ih
      exact ⟨l',ak hm ih⟩
    | inr q=>
     obtain ⟨hq,y7,y8,hm⟩:=hm
     obtain ⟨τ2,w2,ih⟩:=KQ (T:=T) (lines:=lines) (labels:=labels) ls (k+1) roads (rows++[q]) [.va (.int (k:Int)),.va (.str x),y7,y8] τ1 rfl (fun r hr'=>by
      rcases List.mem_append.mp hr' with z | z
      ·exact hr r z
      ·rw [List.mem_singleton.mp z];exact hq) (fun y hy=>hx y (List.mem_cons_of_mem _ hy)) (by omega) (by simp;omega)
     refine ⟨τ2,w1.trans w2,?_⟩
     dsimp only
     cases epl:oU (k+1+1) roads (rows++[q]) ls with
     | inl e=>rw [epl] at ih;exact ak hm ih
     | inr e=>
      rw [epl] at ih
      obtain ⟨l',ih⟩:=ih
      exact ⟨l',ak hm ih⟩
theorem Zt (o:List Th) (n:Nat) (N:Net):(eN N).resv o n=eN N:=by
 have hC:=Vl o n
 have hG:∀g:List Ch,(eG g).resv o n=eG g:=fun g=>by unfold eG;rw [D.resv,mQ hC]
 have hGs:∀g:Gs,(Fd g).resv o n=Fd g:=fun g=>by
  cases g with
  | none=>unfold Fd;dsimp only;rw [D.resv]
  | some gs=>unfold Fd;dsimp only;rw [D.resv,mQ hG]
 have hK:∀k:Int×Str,(eK k).resv o n=eK k:=fun k=>by unfold eK;rw [D.resv,D.dZ,D.dZ,D.dZ,D.resv,D.resv]
 have hR:∀r:Rw,(eR r).resv o n=eR r:=fun r=>by unfold eR;rw [D.resv,D.dZ,D.dZ,D.dZ,hK,hGs]
 have hP:∀p:Int×Int,(eP p).resv o n=eP p:=fun p=>by unfold eP;rw [D.resv,D.dZ,D.dZ,D.dZ,D.resv,D.resv]
 unfold eN eW
 rw [D.resv,D.dZ,D.dZ,D.dZ,D.dZ,D.resv,D.resv,D.resv,mQ hP,mQ hR,mQ (fun x=>by rw [D.resv])]
theorem abv (n:Nat) (N:Net):(eN N).old n=true:=by
 have hC:=aar n
 have hG:∀g:List Ch,(eG g).old n=true:=fun g=>by unfold eG;rw [D.old,oM hC]
 have hGs:∀g:Gs,(Fd g).old n=true:=fun g=>by
  cases g with
  | none=>unfold Fd;dsimp only;rw [D.old]
  | some gs=>unfold Fd;dsimp only;rw [D.old,oM hG]
 have hK:∀k:Int×Str,(eK k).old n=true:=fun k=>by unfold eK;rw [D.old,D.fK,D.fK,D.fK,D.old,D.old];rfl
 have hR:∀r:Rw,(eR r).old n=true:=fun r=>by unfold eR;rw [D.old,D.fK,D.fK,D.fK,hK,hGs];rfl
 have hP:∀p:Int×Int,(eP p).old n=true:=fun p=>by unfold eP;rw [D.old,D.fK,D.fK,D.fK,D.old,D.old];rfl
 unfold eN eW
 rw [D.old,D.fK,D.fK,D.fK,D.fK,D.old,D.old,D.old,oM hP,oM hR,oM (fun x=>by rw [D.old])]
 rfl
theorem Qs {x:Str}(hx:pA x) (hl:x.length≤9900) (hll:∀y∈lnOf x,y.length≤3800) (σ:DS):∃σ',DN σ σ'∧match Yh x with
  | .inl (a,b)=>mO [.str x] σ = .exc bF [("word",.int (b:Int)),("line",.int (a:Int))] σ'
  | .inr N=>mO [.str x] σ=zF σ.objs.length (bnd (bY [eN N]) (fun d=>ret d) σ'):=by
 have i1:kJ isT [.str x,.raw (.ty "str")] σ = .ok (.bl true) σ:=by kernel_rfl
 have hln:=split_len (c:=10) (by decide) x
 have hlo:=Mx (c:=10) (by decide) hx
 rw [←Z9] at hln hlo
 have g0:qw [.va (.str x),.un,.un,.un,.un,.un,.un,.un,.un] σ = .ok (.nx [.va (.str x),.un,.un,.un,.un,.un,.un,.un,.un]) σ:=by
  unfold qw
  exact ak (a:=false) (s':=σ) (ak (a:=true) (s':=σ) (ak (a:= .bl true) (s':=σ) (ak (a:=[.str x,.raw (.ty "str")]) (s':=σ) rfl i1) rfl) rfl) rfl
 have g1:qY [.va (.str x),.un,.un,.un,.un,.un,.un,.un,.un] σ = .ok (.nx [.va (.str x),.va (.lst ((lnOf x).map .str)),.un,.un,.un,.un,.un,.un,.un]) σ:=by
  unfold qY
  refine ak (a:= .lst ((lnOf x).map .str)) (s':=σ) ?_ rfl
  refine ak (a:=(lnOf x).map .str) (s':=σ) ?_ rfl
  refine ak (a:= .str x) (s':=σ) rfl ?_
  refine ak (a:= .str "\n") (s':=σ) rfl ?_
  show (if (("\n" : Str).length==0)=false∧x.length+2≤sizeLine then ret ((Txt.split x "\n").map .str) else stk:M (List D)) σ=_
  rw [if_pos ⟨by decide +kernel,by rw [sizeLine_eq];omega⟩]
  rfl
 show ∃σ',DN σ σ'∧match Yh x with
  | .inl (a,b)=>zF σ.objs.length (bnd (fB [.va (.str x),.un,.un,.un,.un,.un,.un,.un,.un]) endF σ) = .exc bF [("word",.int (b:Int)),("line",.int (a:Int))] σ'
  | .inr N=>zF σ.objs.length (bnd (fB [.va (.str x),.un,.un,.un,.un,.un,.un,.un,.un]) endF σ)=zF σ.objs.length (bnd (bY [eN N]) (fun d=>ret d) σ')
 have bad:∀(a b:Nat) (σ':DS),fB [.va (.str x),.un,.un,.un,.un,.un,.un,.un,.un] σ = .exc bF [("word",.int (b:Int)),("line",.int (a:Int))] σ'→zF σ.objs.length (bnd (fB [.va (.str x),.un,.un,.un,.un,.un,.un,.un,.un]) endF σ) = .exc bF [("word",.int (b:Int)),("line",.int (a:Int))] σ':=fun a b σ' e=>by
  rw [aC e]
  rfl
 unfold lnOf at g1 hll
 unfold Yh lnOf
 obtain ⟨hlen,hne⟩:=hln
 generalize Txt.split x "\n" = lines at *
 cases lines with
 | nil=>exact absurd rfl hne
 | cons y ls=>
  have hy:pA y∧y.length≤3800:=⟨hlo y List.mem_cons_self,hll y List.mem_cons_self⟩
  have hls:∀z∈ls,pA z∧z.length≤3900:=fun z hz=>⟨hlo z (List.mem_cons_of_mem _ hz),by have:=hll z (List.mem_cons_of_mem _ hz);omega⟩
  have hn:=Ku hy.1 (by omega) σ
  have em:=Qa (num:= .int 0) (x:=y) (by omega) σ
  have el:=NZ _ _ _ (.int 0) _ hn
  have ix0:m2 dJ (au 1) (fun _=>ret (.int 0)) [.va (.str x),.va (.lst ((y::ls).map .str)),.un,.un,.un,.un,.un,.un,.un] σ = .ok (.str y) σ:=by
   refine dR (x:= .lst ((y::ls).map D.str)) (y:= .int 0) (s1:=σ) (s2:=σ) rfl rfl ?_
   show oG (atI ((y::ls).map D.str) ((0:Nat):Int)) σ=_
   rw [oE (n:=0) (x:=y) rfl]
   rfl
  have em2:(fun ls=>bnd ((ao (fun ls=>bnd ((ao (m2 dJ (au 1) (fun _=>ret (.int 0))) (ao (fun _=>ret (.int 0)) (fun _=>ret []))) ls) (Bm aD 3 (dh))) (fun _=>ret [])) ls) (aQ 1 (oH))) [.va (.str x),.va (.lst ((y::ls).map .str)),.un,.un,.un,.un,.un,.un,.un] σ=X4 eW (σ.push (.ins aD [])) σ.objs.length (cI y) (.int 0) (uU (cI y)):=by
   refine ak (a:=[.sref σ.objs.length]) (s':=stN σ y (.int 0) (cI y)) ?_ (call_of el)
   refine ak (a:= .sref σ.objs.length) (s':=stN σ y (.int 0) (cI y)) ?_ rfl
   exact ak (a:=[.str y,.int 0]) (s':=σ) (ak ix0 rfl) em
  dsimp only
  cases ep:uU (cI y) with
  | mk o r=>
   rw [ep] at em2
   cases o with
   | none=>
    refine ⟨_,DN.line σ y 0 r,?_⟩
    dsimp only
    refine bad 0 _ _ ?_
    unfold fB
    rw [aJ g0,aJ g1]
    refine aC ?_
    unfold lZ
    exact aC (aC em2)
   | some labels=>
    have g2:lZ [.va (.str x),.va (.lst ((y::ls).map .str)),.un,.un,.un,.un,.un,.un,.un] σ = .ok (.nx (g8 (.str x) (y::ls) labels [] [] [.un,.un,.un,.un])) (stN σ y (.int 0) r):=by
     unfold lZ
     refine ak (a:=[.va (eW labels),.ow [],.ow []]) (s':=stN σ y (.int 0) r) ?_ rfl
     exact ak (a:=eW labels) (s':=stN σ y (.int 0) r) em2 rfl
    obtain ⟨τ,wt,hm⟩:=KQ (T:= .str x) (lines:=y::ls) (labels:=labels) ls 0 [] [] [.un,.un,.un,.un] (stN σ y (.int 0) r) rfl (by simp) hls (by simp only [List.length_cons] at hlen;simp;omega) (by simp only [List.length_cons] at hlen;simp;omega)
    have wt:=(DN.line σ y 0 r).trans wt
    have e3:wH (Pr (au 1) (fun ls=>bnd ((fun _=>ret (.int 1)) ls) intD) (fun _=>ret none)) (g8 (.str x) (y::ls) labels [] [] [.un,.un,.un,.un]) (stN σ y (.int 0) r) = .ok (jB 0 (ls.map .str)) (stN σ y (.int 0) r):=by
     refine ak (a:= .lst (ls.map D.str)) (s':=stN σ y (.int 0) r) ?_ rfl
     refine ak (a:= .lst ((y::ls).map D.str)) (s':=stN σ y (.int 0) r) rfl ?_
     refine ak (a:=some 1) (s':=stN σ y (.int 0) r) rfl ?_
     refine ak (a:=none) (s':=stN σ y (.int 0) r) rfl ?_
     rw [Nq,Vh]
     rfl
    dsimp only
    cases epl:oU 1 [] [] ls with
    | inl e=>
     obtain ⟨a,b⟩:=e
     rw [epl] at hm
     refine ⟨τ,wt,bad a b τ ?_⟩
     unfold fB
     rw [aJ g0,aJ g1,aJ g2]
     refine aC ?_
     unfold lA
     exact ak e3 hm
    | inr e=>
     obtain ⟨roads,rows⟩:=e
     rw [epl] at hm
     obtain ⟨l',hm⟩:=hm
     have g3:lA (g8 (.str x) (y::ls) labels [] [] [.un,.un,.un,.un]) (stN σ y (.int 0) r) = .ok (.nx (g8 (.str x) (y::ls) labels roads rows l')) τ:=by
      unfold lA
      exact ak e3 hm
     have e4:(fun ls=>bnd (m2 v7 (iU 3) (mL (fun ls=>bnd ((fun _=>ret []) ls) eX)) ls) jR) (g8 (.str x) (y::ls) labels roads rows l') τ = .ok (decide (roads=[])) τ:=ak (dR (x:= .lst (roads.map eP)) (y:= .lst []) (s1:=τ) (s2:=τ) rfl rfl (Bh _ _)) rfl
     refine ⟨τ,wt,?_⟩
     dsimp only
     by_cases hr:roads=[]
     ·rw [if_pos hr]
      rw [decide_eq_true hr] at e4
      refine bad 1 0 τ ?_
      unfold fB
      rw [aJ g0,aJ g1,aJ g2,aJ g3]
      refine aC ?_
      unfold lO
      exact ak e4 rfl
     ·rw [if_neg hr]
      rw [decide_eq_false hr] at e4
      have g4:lO (g8 (.str x) (y::ls) labels roads rows l') τ = .ok (.nx (g8 (.str x) (y::ls) labels roads rows l')) τ:=by
       unfold lO
       exact ak e4 rfl
      refine congrArg (zF σ.objs.length) ?_
      have e5:qU (g8 (.str x) (y::ls) labels roads rows l') τ=bnd (bY [eN ⟨roads,labels,rows⟩]) (fun d=>ret (Fl.rt d)) τ:=by
       unfold qU cW
       unfold bnd
       rfl
      have e6:fB [.va (.str x),.un,.un,.un,.un,.un,.un,.un,.un] σ=bnd (bY [eN ⟨roads,labels,rows⟩]) (fun d=>ret (Fl.rt d)) τ:=by
       unfold fB
       rw [aJ g0,aJ g1,aJ g2,aJ g3,aJ g4,e5]
      unfold bnd
      rw [e6]
      unfold bnd
      cases bY [eN ⟨roads,labels,rows⟩] τ<;>rfl
end PV.Law
namespace PV
open PySem PySem.Spec
def zX (l:List Str):Str:=Txt.join " " l
def jf (i:Int):Str:=Str.ofString (toString i)
abbrev Ue:Str:= ","
abbrev sSl:Str:= "/"
abbrev QF:Str:= "row"
abbrev aaq:Str:= "road"
abbrev Np:Str:= "home"
abbrev sGt:Str:= ">"
abbrev Ad:Str:= "labels"
theorem yj (y:Str) (l:List Str):TL.tl (Txt.join y l)=TL.joinL (TL.tl y) (l.map TL.tl):=by
 have e:=SX.join_S (TL.tl y) (l.map TL.tl)
 rw [show SX.S (TL.tl y)=y from SX.S_tl y,List.map_map,show (SX.S∘TL.tl)=id from funext fun x=>SX.S_tl x,List.map_id] at e
 rw [e]
theorem JL:TL.tl (" " : Str)=[32]:=by decide +kernel
theorem JC (s:List Nat):∀{A B:List (List Nat)},A≠[]→B≠[]→TL.joinL s (A++B)=TL.joinL s A++(s++TL.joinL s B)
 | [],B,h,_=>absurd rfl h
 | [a],b::B,_,_=>rfl
 | a::a2::A,B,_,hB=>by
  have ih:=JC s (A:=a2::A) (B:=B) (by simp) hB
  show a++(s++TL.joinL s ((a2::A)++B))=(a++(s++TL.joinL s (a2::A)))++(s++TL.joinL s B)
  rw [ih]
  simp
 | [a],[],_,h=>absurd rfl h
theorem BP {A B:List Str}(hA:A≠[]) (hB:B≠[]):TL.tl (zX (A++B))=TL.tl (zX A)++([32]++TL.tl (zX B)):=by
 unfold zX
 rw [yj,yj,yj,List.map_append,JL,JC [32] (by simpa using hA) (by simpa using hB)]
theorem LC (x:Str):TL.tl (zX [x])=TL.tl x:=by
 unfold zX
 rw [yj]
 rfl
theorem zV {α:Type}{X sep:Str}(hs:TL.tl sep=[32]++(TL.tl X++[32])) (f:α→List Str) (hf:∀a,f a≠[]):∀(l:List α) (a:α),Txt.join sep ((a::l).map fun a=>zX (f a))=zX (f a++l.flatMap fun b=>X::f b)
 | [],a=>by
  apply TL.ext_tl
  rw [yj,List.flatMap_nil,List.append_nil]
  rfl
 | b::l,a=>by
  have ih:=congrArg TL.tl (zV hs f hf l b)
  rw [yj,hs] at ih
  apply TL.ext_tl
  rw [List.flatMap_cons,BP (hf a) (by simp),yj,hs]
  have e2:TL.tl (zX ((X::f b)++l.flatMap fun b=>X::f b))=TL.tl X++([32]++TL.tl (zX (f b++l.flatMap fun b=>X::f b))):=by
   rw [show (X::f b)++(l.flatMap fun b=>X::f b)=[X]++(f b++l.flatMap fun b=>X::f b) by simp,BP (by simp) (by simp [hf b]),LC]
  rw [e2,←ih]
  show TL.tl (zX (f a))++(([32]++(TL.tl X++[32]))++TL.joinL ([32]++(TL.tl X++[32])) (((b::l).map fun a=>zX (f a)).map TL.tl))=_
  simp
def gA (c:Ch):List Str:=jf c.1::c.2
def gW:List Ch→List Str
 | []=>[""]
 | c::g=>gA c++g.flatMap fun c=>Ue::gA c
def Yj:List (List Ch)→List Str
 | []=>[""]
 | g::gs=>gW g++gs.flatMap fun g=>sSl::gW g
def ZM (c:Ch):Str:=zX (gA c)
def Tj (g:List Ch):Str:=Txt.join " , " (g.map ZM)
def Ym (gs:List (List Ch)):Str:=Txt.join " / " (gs.map Tj)
theorem aa5 (c:Ch):gA c≠[]:=List.cons_ne_nil _ _
theorem aas:∀g:List Ch,gW g≠[]
 | []=>by simp [gW]
 | c::g=>by simp [gW,gA]
theorem ab2 {g:List Ch}(h:g≠[]):Tj g=zX (gW g):=by
 cases g with
 | nil=>exact absurd rfl h
 | cons c g=>exact zV (X:=Ue) (sep:= " , ") (by decide +kernel) gA aa5 g c
theorem abU {gs:List (List Ch)}(h:gs≠[]) (hg:∀g∈gs,g≠[]):Ym gs=zX (Yj gs):=by
 cases gs with
 | nil=>exact absurd rfl h
 | cons g gs=>
  unfold Ym
  rw [List.map_congr_left fun x hx=>ab2 (hg x hx)]
  exact zV (X:=sSl) (sep:= " / ") (by decide +kernel) gW aas gs g
def wL (t:Str):Str:=if t = "" then "-" else t
def j5 (k:Int×Str):Str:=((((Str.empty ++ "row") ++ " ")++jf k.1) ++ " ")++wL k.2
def uQ:Rw→Str
 | (k,none)=>(j5 k ++ " ") ++ "home"
 | (k,some gs)=>(j5 k ++ " > ")++Ym gs
def Ho:Rw→List Str
 | (k,none)=>[QF,jf k.1,wL k.2,Np]
 | (k,some gs)=>[QF,jf k.1,wL k.2,sGt]++Yj gs
def jy (p:Int×Int):Str:=((((Str.empty ++ "road") ++ " ")++jf p.1) ++ " ")++jf p.2
def yW (p:Int×Int):List Str:=[aaq,jf p.1,jf p.2]
def w6 (l:List Str):Str:=zX (Ad::l)
def yP (n:Net):List Str:=(w6 n.labels::n.roads.map jy)++n.rows.map uQ
def Ez (n:Net):Str:=Txt.join "\n" (yP n)
theorem ac6 (a b c:Str):TL.tl (zX [a,b,c])=TL.tl a++([32]++(TL.tl b++([32]++TL.tl c))):=by
 unfold zX
 rw [yj,JL]
 rfl
theorem aai:TL.tl Str.empty=[]:=rfl
theorem Mv (p:Int×Int):jy p=zX (yW p):=by
 apply TL.ext_tl
 unfold jy yW
 rw [ac6,TL.tl_append,TL.tl_append,TL.tl_append,TL.tl_append,TL.tl_append,aai,JL]
 simp
theorem RG (k:Int×Str):TL.tl (j5 k)=TL.tl (zX [QF,jf k.1,wL k.2]):=by
 unfold j5
 rw [ac6,TL.tl_append,TL.tl_append,TL.tl_append,TL.tl_append,TL.tl_append,aai,JL]
 simp
theorem Rz {r:Rw}(h:∀gs,r.2=some gs→gs≠[]∧∀g∈gs,g≠[]):uQ r=zX (Ho r):=by
 obtain ⟨k,gs⟩:=r
 apply TL.ext_tl
 cases gs with
 | none=>
  show TL.tl ((j5 k ++ " ") ++ "home")=TL.tl (zX ([QF,jf k.1,wL k.2]++[Np]))
  rw [BP (by simp) (by simp),LC,TL.tl_append,TL.tl_append,RG,JL]
  simp
 | some gs=>
  obtain ⟨h1,h2⟩:=h gs rfl
  show TL.tl ((j5 k ++ " > ")++Ym gs)=TL.tl (zX ([QF,jf k.1,wL k.2]++([sGt]++Yj gs)))
  rw [BP (by simp) (by simp),BP (by simp) (by cases gs<;>simp [Yj,aas]),LC,TL.tl_append,TL.tl_append,RG,abU h1 h2,show TL.tl (" > " : Str)=[32]++(TL.tl sGt++[32]) by decide +kernel]
  simp
theorem Fo {i:Int}(h0:0≤i) (h1:i≤9):jf i∈digs∧cU (jf i)=i:=by
 have:i=0∨i=1∨i=2∨i=3∨i=4∨i=5∨i=6∨i=7∨i=8∨i=9:=by omega
 rcases this with rfl | rfl | rfl | rfl | rfl | rfl | rfl | rfl | rfl | rfl<;>decide +kernel
structure ChR (c:Ch):Prop where
 d:0≤c.1∧c.1≤9
 w:∀x∈c.2,isW x=true
def Ju:List Str→Bool
 | []=>true
 | w::_=> !isW w
theorem SM {w rest:List Str}(hw:∀x∈w,isW x=true) (hs:Ju rest=true):(w++rest).takeWhile isW=w∧(w++rest).dropWhile isW=rest:=by
 induction w with
 | nil=>
  cases rest with
  | nil=>exact ⟨rfl,rfl⟩
  | cons x r=>
   have:isW x=false:=by simpa [Ju] using hs
   rw [List.nil_append,List.takeWhile_cons_of_neg (by rw [this];decide),List.dropWhile_cons_of_neg (by rw [this];decide)]
   exact ⟨rfl,rfl⟩
 | cons x w ih=>
  have hx:=hw x List.mem_cons_self
  obtain ⟨a,b⟩:=ih fun y hy=>hw y (List.mem_cons_of_mem _ hy)
  rw [List.cons_append,List.takeWhile_cons_of_pos hx,List.dropWhile_cons_of_pos hx,a,b]
  exact ⟨rfl,rfl⟩
theorem Cz {c:Ch}(h:ChR c) {rest:List Str}(hs:Ju rest=true):cC (gA c++rest)=(some c,rest):=by
 obtain ⟨a,b⟩:=Fo h.d.1 h.d.2
 obtain ⟨e1,e2⟩:=SM h.w hs
 unfold cC gA
 rw [List.cons_append,dW,if_pos a]
 dsimp only
 rw [e1,e2,b]
theorem Wg:Ue≠sSl:=by decide +kernel
theorem Q6 (g:List Ch) {r:List Str}(hr:Ju r=true):Ju ((g.flatMap fun c=>Ue::gA c)++r)=true:=by
 cases g with
 | nil=>exact hr
 | cons c g=>exact (by decide +kernel:(!isW Ue)=true)
theorem Ln (gs:List (List Ch)):Ju (gs.flatMap fun g=>sSl::gW g)=true:=by
 cases gs with
 | nil=>rfl
 | cons g gs=>exact (by decide +kernel:(!isW sSl)=true)
theorem Wo:∀(gs:List (List Ch)) (g:List Ch) (n:Nat) (acc:List (List Ch)) (cur:List Ch),((g.flatMap fun c=>Ue::gA c)++gs.flatMap fun g=>sSl::gW g).length≤n→(∀c∈g,ChR c)→(∀x∈gs,x≠[]∧∀c∈x,ChR c) →
  Pn n acc cur ((g.flatMap fun c=>Ue::gA c)++gs.flatMap fun g=>sSl::gW g)=(some (acc++(cur++g)::gs),[])
 | [],[],n,acc,cur,_,_,_=>by
  rw [List.flatMap_nil,List.flatMap_nil,List.append_nil,Xh,List.append_nil]
 | []::gs,[],n,acc,cur,_,_,h=>absurd rfl (h [] List.mem_cons_self).1
 | (c::g)::gs,[],0,acc,cur,hn,_,h=>by simp at hn
 | (c::g)::gs,[],n+1,acc,cur,hn,_,h=>by
  obtain ⟨_,hc⟩:=h (c::g) List.mem_cons_self
  have e:(([]:List Ch).flatMap fun c=>Ue::gA c)++(((c::g)::gs).flatMap fun g=>sSl::gW g)=sSl::(gA c++((g.flatMap fun c=>Ue::gA c)++gs.flatMap fun g=>sSl::gW g)):=by
   simp [gW]
  rw [e] at hn ⊢
  rw [rH,if_pos rfl,Cz (hc c List.mem_cons_self) (Q6 g (Ln gs))]
  dsimp only
  rw [Wo gs g n (acc++[cur]) [c] (by simp only [List.length_cons,List.length_append] at hn ⊢;omega) (fun x hx=>hc x (List.mem_cons_of_mem _ hx)) (fun x hx=>h x (List.mem_cons_of_mem _ hx))]
  simp
 | gs,c::g,0,acc,cur,hn,_,_=>by simp at hn
 | gs,c::g,n+1,acc,cur,hn,hc,h=>by
  have e:((c::g).flatMap fun c=>Ue::gA c)++(gs.flatMap fun g=>sSl::gW g)=Ue::(gA c++((g.flatMap fun c=>Ue::gA c)++gs.flatMap fun g=>sSl::gW g)):=by
   simp
  rw [e] at hn ⊢
  rw [rH,if_neg Wg,if_pos rfl,Cz (hc c List.mem_cons_self) (Q6 g (Ln gs))]
  dsimp only
  rw [Wo gs g n acc (cur++[c]) (by simp only [List.length_cons,List.length_append] at hn ⊢;omega) (fun x hx=>hc x (List.mem_cons_of_mem _ hx)) h]
  simp
theorem Uq {gs:List (List Ch)}(hne:gs≠[]) (h:∀x∈gs,x≠[]∧∀c∈x,ChR c):pY (Yj gs)=(some gs,[]):=by
 match gs,hne with
 | []::gs,_=>exact absurd rfl (h [] List.mem_cons_self).1
 | (c::g)::gs,_=>
  obtain ⟨_,hc⟩:=h (c::g) List.mem_cons_self
  have e:Yj ((c::g)::gs)=gA c++((g.flatMap fun c=>Ue::gA c)++gs.flatMap fun g=>sSl::gW g):=by simp [Yj,gW]
  unfold pY
  rw [e,Cz (hc c List.mem_cons_self) (Q6 g (Ln gs))]
  dsimp only
  rw [Wo gs g _ [] [c] (Nat.le_refl _) (fun x hx=>hc x (List.mem_cons_of_mem _ hx)) (fun x hx=>h x (List.mem_cons_of_mem _ hx))]
  rfl
structure RwR (r:Rw):Prop where
 d:0≤r.1.1∧r.1.1≤9
 t:isW r.1.2=true∨r.1.2 = ""
 g:∀gs,r.2=some gs→gs≠[]∧∀x∈gs,x≠[]∧∀c∈x,ChR c
theorem aaS {t:Str}(h:isW t=true):t ≠ "-" :=fun z=>by
 rw [z] at h
 exact absurd h (by decide +kernel)
theorem YD {t:Str}(h:isW t=true):t ≠ "" :=fun z=>by
 rw [z] at h
 exact absurd h (by decide +kernel)
theorem Yd {k:Int×Str}(hd:0≤k.1∧k.1≤9) (ht:isW k.2=true∨k.2 = "") (rest:List Str):CP (jf k.1::wL k.2::rest)=(some k,rest):=by
 obtain ⟨i,t⟩:=k
 obtain ⟨a,b⟩:=Fo hd.1 hd.2
 unfold CP wL
 rw [dW,if_pos a]
 dsimp only
 rcases ht with ht | ht
 ·have ht:isW t=true:=ht
  rw [if_neg (YD ht),dW,if_neg (by rw [List.mem_singleton];exact aaS ht),pZ,if_pos ht]
  dsimp only
  rw [b]
 ·have ht:t = "" :=ht
  rw [if_pos ht,dW,if_pos (by simp)]
  dsimp only
  rw [b,ht]
theorem aaD {r:Rw}(h:RwR r):Nr (Ho r).tail=(some r,[]):=by
 obtain ⟨k,gs⟩:=r
 unfold Nr
 cases gs with
 | none=>
  have e0:CP (Ho (k,none)).tail=(some k,[Np]):=Yd h.d h.t [Np]
  rw [e0]
  dsimp only
  rw [dW,if_pos (by simp)]
  dsimp only
  rw [if_pos rfl]
  rfl
 | some gs=>
  obtain ⟨h1,h2⟩:=h.g gs rfl
  have e0:CP (Ho (k,some gs)).tail=(some k,sGt::Yj gs):=Yd h.d h.t (sGt::Yj gs)
  rw [e0]
  dsimp only
  rw [dW,if_pos (by simp)]
  dsimp only
  rw [if_neg (by decide +kernel),Uq h1 h2]
theorem Zb {p:Int×Int}(h1:0≤p.1∧p.1≤9) (h2:0≤p.2∧p.2≤9):RB (yW p).tail=(some p,[]):=by
 obtain ⟨a,b⟩:=Fo h1.1 h1.2
 obtain ⟨c,d⟩:=Fo h2.1 h2.2
 unfold RB yW
 rw [List.tail_cons,dW,if_pos a]
 dsimp only
 rw [dW,if_pos c]
 dsimp only
 show (some (cU (jf p.1),cU (jf p.2)),[])=_
 rw [b,d]
theorem Uk {l:List Str}(hne:l≠[]) (h:∀x∈l,isW x=true):uU (Ad::l)=(some l,[]):=by
 cases l with
 | nil=>exact absurd rfl hne
 | cons x l=>
  obtain ⟨e1,e2⟩:=SM (w:=l) (rest:=[]) (fun y hy=>h y (List.mem_cons_of_mem _ hy)) rfl
  rw [List.append_nil] at e1 e2
  unfold uU
  rw [dW,if_pos (by simp)]
  dsimp only
  rw [pZ,if_pos (h x List.mem_cons_self)]
  dsimp only
  rw [e1,e2]
  rfl
theorem WR {c:Nat}(hc:c<97) {x:Str}(h:isW x=true):G5 c x=false:=by
 unfold isW at h
 rw [Bool.and_eq_true] at h
 unfold G5
 rw [Bool.eq_false_iff]
 intro z
 have:=List.all_eq_true.mp h.2 c (by simpa using z)
 unfold JQ at this
 rw [Bool.and_eq_true,decide_eq_true_iff,decide_eq_true_iff] at this
 omega
theorem N5 {c:Nat}(hc:c<48) {i:Int}(h0:0≤i) (h1:i≤9):G5 c (jf i)=false:=by
 have:c=32∨c≠32:=by omega
 have hi:i=0∨i=1∨i=2∨i=3∨i=4∨i=5∨i=6∨i=7∨i=8∨i=9:=by omega
 have e:∃d,(jf i).cps.toList=[d]∧48≤d:=by
  refine ⟨48+i.toNat,?_,by omega⟩
  rcases hi with rfl | rfl | rfl | rfl | rfl | rfl | rfl | rfl | rfl | rfl<;>decide +kernel
 obtain ⟨d,e,hd⟩:=e
 unfold G5
 rw [e]
 simp
 omega
def Bw (x:Str):Prop:=G5 32 x=false∧G5 10 x=false
theorem KC {x:Str}(h:isW x=true):Bw x:=⟨WR (by decide) h,WR (by decide) h⟩
theorem BR {i:Int}(h0:0≤i) (h1:i≤9):Bw (jf i):=⟨N5 (by decide) h0 h1,N5 (by decide) h0 h1⟩
theorem Ro {c:Ch}(h:ChR c):∀x∈gA c,Bw x:=fun x hx=>by
 rcases List.mem_cons.mp hx with rfl | hx
 ·exact BR h.d.1 h.d.2
 ·exact KC (h.w x hx)
theorem VN {g:List Ch}(hne:g≠[]) (h:∀c∈g,ChR c):∀x∈gW g,Bw x:=by
 cases g with
 | nil=>exact absurd rfl hne
 | cons c g=>
  intro x hx
  rcases List.mem_append.mp hx with z | z
  ·exact Ro (h c List.mem_cons_self) x z
  ·obtain ⟨d,hd,hx⟩:=List.mem_flatMap.mp z
   rcases List.mem_cons.mp hx with rfl | hx
   ·exact ⟨by decide +kernel,by decide +kernel⟩
   ·exact Ro (h d (List.mem_cons_of_mem _ hd)) x hx
theorem Z7 {gs:List (List Ch)}(hne:gs≠[]) (h:∀g∈gs,g≠[]∧∀c∈g,ChR c):∀x∈Yj gs,Bw x:=by
 cases gs with
 | nil=>exact absurd rfl hne
 | cons g gs=>
  intro x hx
  rcases List.mem_append.mp hx with z | z
  ·exact VN (h g List.mem_cons_self).1 (h g List.mem_cons_self).2 x z
  ·obtain ⟨d,hd,hx⟩:=List.mem_flatMap.mp z
   rcases List.mem_cons.mp hx with rfl | hx
   ·exact ⟨by decide +kernel,by decide +kernel⟩
   ·exact VN (h d (List.mem_cons_of_mem _ hd)).1 (h d (List.mem_cons_of_mem _ hd)).2 x hx
theorem NT {r:Rw}(h:RwR r):∀x∈Ho r,Bw x:=by
 obtain ⟨k,gs⟩:=r
 have h0:Bw QF:=⟨by decide +kernel,by decide +kernel⟩
 have h1:Bw (jf k.1):=BR h.d.1 h.d.2
 have h2:Bw (wL k.2):=by
  unfold wL
  split
  ·exact ⟨by decide +kernel,by decide +kernel⟩
  ·rename_i hz
   rcases h.t with z | z
   ·exact KC z
   ·exact absurd z hz
 have h3:Bw sGt:=⟨by decide +kernel,by decide +kernel⟩
 have h4:Bw Np:=⟨by decide +kernel,by decide +kernel⟩
 intro x hx
 cases gs with
 | none=>
  simp only [Ho,List.mem_cons,List.not_mem_nil,or_false] at hx
  rcases hx with rfl | rfl | rfl | rfl
  ·exact h0
  ·exact h1
  ·exact h2
  ·exact h4
 | some gs=>
  obtain ⟨g1,g2⟩:=h.g gs rfl
  simp only [Ho,List.cons_append,List.nil_append,List.mem_cons] at hx
  rcases hx with rfl | rfl | rfl | rfl | hx
  ·exact h0
  ·exact h1
  ·exact h2
  ·exact h3
  ·exact Z7 g1 g2 x hx
theorem Jv {p:Int×Int}(h1:0≤p.1∧p.1≤9) (h2:0≤p.2∧p.2≤9):∀x∈yW p,Bw x:=by
 intro x hx
 simp only [yW,List.mem_cons,List.not_mem_nil,or_false] at hx
 rcases hx with rfl | rfl | rfl
 ·exact ⟨by decide +kernel,by decide +kernel⟩
 ·exact BR h1.1 h1.2
 ·exact BR h2.1 h2.2
theorem Px {W:List Str}(hne:W≠[]) (h:∀x∈W,Bw x):cI (zX W)=W:=by
 unfold cI zX
 rw [Oc]
 exact split_join (by decide) hne fun p hp=>(h p hp).1
theorem CK {s:List Nat}{c:Nat}:∀{L:List (List Nat)},c∈TL.joinL s L→c∈s∨∃l∈L,c∈l
 | [],h=>by simp [TL.joinL] at h
 | [p],h=>Or.inr ⟨p,by simp,h⟩
 | p::q::r,h=>by
  rcases List.mem_append.mp (show c∈p++(s++TL.joinL s (q::r)) from h) with z | z
  ·exact Or.inr ⟨p,List.mem_cons_self,z⟩
  ·rcases List.mem_append.mp z with z | z
   ·exact Or.inl z
   ·rcases CK z with z | ⟨l,hl,z⟩
    ·exact Or.inl z
    ·exact Or.inr ⟨l,List.mem_cons_of_mem _ hl,z⟩
theorem Qv {W:List Str}(h:∀x∈W,Bw x):G5 10 (zX W)=false:=by
 rw [Bool.eq_false_iff]
 intro z
 have z:10∈TL.tl (zX W):=by simpa [G5] using z
 unfold zX at z
 rw [yj,JL] at z
 rcases CK z with z | ⟨l,hl,z⟩
 ·simp at z
 ·obtain ⟨x,hx,rfl⟩:=List.mem_map.mp hl
  have:=(h x hx).2
  unfold G5 at this
  rw [Bool.eq_false_iff] at this
  exact this (by simpa using z)
structure NetR (n:Net):Prop where
 rne:n.roads≠[]
 rd:∀p∈n.roads,(0≤p.1∧p.1≤9)∧0≤p.2∧p.2≤9
 lne:n.labels≠[]
 lb:∀x∈n.labels,isW x=true
 rw:∀r∈n.rows,RwR r
theorem S9 {roads:List (Int×Int)}(hr:roads≠[]):∀(qs:List Rw) (k:Nat) (rows:List Rw),(∀r∈qs,RwR r)→oU k roads rows (qs.map uQ) = .inr (roads,rows++qs)
 | [],k,rows,_=>by rw [List.append_nil];rfl
 | q::qs,k,rows,h=>by
  have hq:=h q List.mem_cons_self
  have e1:cI (uQ q)=Ho q:=by
   rw [Rz fun gs e=>⟨(hq.g gs e).1,fun g hg=>((hq.g gs e).2 g hg).1⟩]
   exact Px (by obtain ⟨k,g⟩:=q;cases g<;>simp [Ho]) (NT hq)
  have e2:Ho q=QF::(Ho q).tail:=by obtain ⟨k,g⟩:=q;cases g<;>rfl
  have e3:Eh (yN roads rows) (cI (uQ q))=(some (.inr q),[]):=by
   unfold Eh
   rw [e1,e2,dW,if_pos (by unfold yN;rw [if_neg hr];split<;>simp)]
   dsimp only
   rw [if_neg (by decide +kernel),aaD hq]
  rw [List.map_cons,oU,e3]
  dsimp only
  rw [S9 hr qs (k+1) (rows++[q]) fun r hr=>h r (List.mem_cons_of_mem _ hr)]
  simp
theorem Pa {qs:List Rw}(hq:∀r∈qs,RwR r):∀(ps:List (Int×Int)) (k:Nat) (roads:List (Int×Int)),(∀p∈ps,(0≤p.1∧p.1≤9)∧0≤p.2∧p.2≤9)→roads++ps≠[]→oU k roads [] (ps.map jy++qs.map uQ) = .inr (roads++ps,qs)
 | [],k,roads,_,hne=>by
  rw [List.append_nil] at hne ⊢
  rw [List.map_nil,List.nil_append,S9 hne qs k [] hq]
  rfl
 | p::ps,k,roads,h,hne=>by
  obtain ⟨h1,h2⟩:=h p List.mem_cons_self
  have e1:cI (jy p)=yW p:=by
   rw [Mv]
   exact Px (by simp [yW]) (Jv h1 h2)
  have e3:Eh (yN roads []) (cI (jy p))=(some (.inl p),[]):=by
   unfold Eh
   rw [e1,show yW p=aaq::(yW p).tail from rfl,dW,if_pos (by unfold yN;split<;>simp)]
   dsimp only
   rw [if_pos rfl,Zb h1 h2]
  rw [List.map_cons,List.cons_append,oU,e3]
  dsimp only
  rw [Pa hq ps (k+1) (roads++[p]) (fun p hp=>h p (List.mem_cons_of_mem _ hp)) (by simp)]
  simp
theorem Vb {n:Net}(h:NetR n):lnOf (Ez n)=yP n:=by
 unfold lnOf Ez
 rw [Z9]
 refine split_join (by decide) (by simp [yP]) fun p hp=> ?_
 unfold yP at hp
 rcases List.mem_append.mp hp with z | z
 ·rcases List.mem_cons.mp z with rfl | z
  ·refine Qv fun x hx=> ?_
   rcases List.mem_cons.mp hx with rfl | hx
   ·exact ⟨by decide +kernel,by decide +kernel⟩
   ·exact KC (h.lb x hx)
  ·obtain ⟨q,hq,rfl⟩:=List.mem_map.mp z
   rw [Mv]
   exact Qv (Jv (h.rd q hq).1 (h.rd q hq).2)
 ·obtain ⟨q,hq,rfl⟩:=List.mem_map.mp z
  have hq:=h.rw q hq
  rw [Rz fun gs e=>⟨(hq.g gs e).1,fun g hg=>((hq.g gs e).2 g hg).1⟩]
  exact Qv (NT hq)
theorem aaE {n:Net}(h:NetR n):Yh (Ez n) = .inr n:=by
 unfold Yh
 have e0:yP n=w6 n.labels::(n.roads.map jy++n.rows.map uQ):=rfl
 rw [Vb h,e0]
 dsimp only
 have e1:cI (w6 n.labels)=Ad::n.labels:=Px (by simp) fun x hx=>by
  rcases List.mem_cons.mp hx with rfl | hx
  ·exact ⟨by decide +kernel,by decide +kernel⟩
  ·exact KC (h.lb x hx)
 rw [e1,Uk h.lne h.lb]
 dsimp only
 rw [Pa h.rw n.roads 1 [] h.rd (by simpa using h.rne)]
 dsimp only
 rw [List.nil_append,if_neg h.rne]
end PV
namespace PV
open PySem PySem.W PySem.Calls PySem.Spec PyProof.Rows L2
theorem sum_le {α:Type}(f:α→Nat) (b:Nat):∀{l:List α},(∀x∈l,f x≤b)→(l.map f).sum≤l.length*b
 | [],_=>by simp
 | x::l,h=>by
  have:=sum_le f b (l:=l) fun y hy=>h y (List.mem_cons_of_mem _ hy)
  have:=h x List.mem_cons_self
  rw [List.map_cons,List.sum_cons,List.length_cons,Nat.add_mul]
  omega
theorem Ke (s:List Nat):∀L:List (List Nat),(TL.joinL s L).length≤(L.map List.length).sum+L.length*s.length
 | []=>by simp [TL.joinL]
 | [p]=>by simp [TL.joinL]
 | p::q::r=>by
  have ih:=Ke s (q::r)
  show (p++(s++TL.joinL s (q::r))).length≤_
  rw [List.length_append,List.length_append,List.map_cons,List.sum_cons,List.length_cons,Nat.add_mul]
  omega
theorem Cu (x:Str):(TL.tl x).length=x.length:=(str_len x).symm
theorem Wq (a:Str) (ys:List Str):(Txt.join a ys).length≤(ys.map (·.length)).sum+ys.length*a.length:=by
 have:=Ke (TL.tl a) (ys.map TL.tl)
 rw [←yj,Cu,List.map_map,List.length_map,Cu] at this
 rw [show (ys.map (·.length))=ys.map (List.length∘TL.tl) from List.map_congr_left fun x _=>(Cu x).symm]
 exact this
theorem join_le {a:Str}{ys:List Str}{n b k:Nat}(hn:ys.length≤n) (hb:∀y∈ys,y.length≤b) (ha:a.length≤k):(Txt.join a ys).length≤n*(b+k)∧(ys.map (·.length)).sum+ys.length*a.length≤n*(b+k):=by
 have h1:=Wq a ys
 have h2:=sum_le (fun y:Str=>y.length) b hb
 have h3:ys.length*b≤n*b:=Nat.mul_le_mul_right _ hn
 have h4:ys.length*a.length≤n*k:=Nat.mul_le_mul hn ha
 rw [Nat.mul_add]
 constructor<;>omega
theorem bD (a b:Str):(a++b).length=a.length+b.length:=by
 rw [←Cu,←Cu,←Cu,TL.tl_append,List.length_append]
theorem tL {a:Str}{ys:List Str}{s:DS}(h:(ys.map (·.length)).sum+ys.length*a.length≤16777216):RN a (.lst (ys.map .str)) s = .ok (.str (Txt.join a ys)) s:=by
 unfold RN
 dsimp only
 rw [JG]
 dsimp only
 rw [if_pos h]
theorem R8 {i:Int}(h0:0≤i) (h1:i≤9):i.natAbs.log2<1920:=by
 have:i=0∨i=1∨i=2∨i=3∨i=4∨i=5∨i=6∨i=7∨i=8∨i=9:=by omega
 rcases this with rfl | rfl | rfl | rfl | rfl | rfl | rfl | rfl | rfl | rfl<;>decide +kernel
theorem rQ {i:Int}(h0:0≤i) (h1:i≤9):(jf i).length=1:=by
 have:i=0∨i=1∨i=2∨i=3∨i=4∨i=5∨i=6∨i=7∨i=8∨i=9:=by omega
 rcases this with rfl | rfl | rfl | rfl | rfl | rfl | rfl | rfl | rfl | rfl<;>decide +kernel
theorem RW {i:Int}(h0:0≤i) (h1:i≤9) (s:DS):TF [.int i] s = .ok (.str (jf i)) s:=by
 show (if i.natAbs.log2<1920 then ret (D.str (toString i)) else stk:M D) s=_
 rw [if_pos (R8 h0 h1)]
 rfl
theorem KH {i:Int}(h0:0≤i) (h1:i≤9) (s:DS):Jd (.int i) s = .ok (.str (jf i)) s:=by
 show (if i.natAbs.log2<1920 then ret (D.str (toString i)) else stk:M D) s=_
 rw [if_pos (R8 h0 h1)]
 rfl
theorem KR {x:Str}(h:x.length≤16777216) (s:DS):Jd (.str x) s = .ok (.str x) s:=by
 show (if x.length≤sizeLine then ret (D.str x) else stk:M D) s=_
 rw [if_pos (by rw [sizeLine_eq];exact h)]
theorem jw {m:bJ D}{ms:List (bJ D)}{acc y:Str}{ls:List Sl}{s:DS}{r:Res D}(e:m ls s = .ok (.str y) s) (hl:(acc++y).length≤1000000) (h:Yl ms (acc++y) ls s=r):Yl (m::ms) acc ls s=r:=by
 unfold Yl
 refine ak e ?_
 dsimp only
 rw [if_pos (by rw [sizeLine_eq];omega)]
 exact h
structure ChL (c:Ch):Prop extends ChR c where
 n:c.2.length≤3
 l:∀x∈c.2,x.length≤8
structure RwL (r:Rw):Prop extends RwR r where
 tl:r.1.2.length≤8
 gl:∀gs,r.2=some gs→gs.length≤3∧∀x∈gs,x.length≤3∧∀c∈x,ChL c
structure NetL (n:Net):Prop extends NetR n where
 r10:n.roads.length≤10
 l4:n.labels.length≤4
 lbl:∀x∈n.labels,x.length≤8
 rwl:∀r∈n.rows,RwL r
 n100:n.rows.length≤100
theorem RQ {c:Ch}(h:ChL c):(ZM c).length≤36∧((gA c).map (·.length)).sum+(gA c).length*(" " : Str).length≤36:=by
 have:=join_le (a:= " ") (ys:=gA c) (n:=4) (b:=8) (k:=1) (by unfold gA;have:=h.n;simp;omega) (fun y hy=>by
  rcases List.mem_cons.mp hy with rfl | hy
  ·rw [rQ h.d.1 h.d.2];omega
  ·exact h.l y hy) (by decide +kernel)
 exact this
theorem VR {g:List Ch}(hn:g.length≤3) (h:∀c∈g,ChL c):(Tj g).length≤117∧((g.map ZM).map (·.length)).sum+(g.map ZM).length*(" , " : Str).length≤117:=
 join_le (a:= " , ") (ys:=g.map ZM) (n:=3) (b:=36) (k:=3) (by simpa using hn) (fun y hy=>by
  obtain ⟨c,hc,rfl⟩:=List.mem_map.mp hy
  exact (RQ (h c hc)).1) (by decide +kernel)
theorem LR {gs:List (List Ch)}(hn:gs.length≤3) (h:∀g∈gs,g.length≤3∧∀c∈g,ChL c):(Ym gs).length≤360∧((gs.map Tj).map (·.length)).sum+(gs.map Tj).length*(" / " : Str).length≤360:=
 join_le (a:= " / ") (ys:=gs.map Tj) (n:=3) (b:=117) (k:=3) (by simpa using hn) (fun y hy=>by
  obtain ⟨g,hg,rfl⟩:=List.mem_map.mp hy
  exact (VR (h g hg).1 (h g hg).2).1) (by decide +kernel)
theorem MN {t:Str}(h:t.length≤8):(wL t).length≤8:=by
 unfold wL
 split
 ·decide +kernel
 ·exact h
theorem Nu {r:Rw}(h:RwL r):(j5 r.1).length≤14:=by
 have:=MN h.tl
 have e:=rQ h.d.1 h.d.2
 unfold j5
 rw [bD,bD,bD,bD,bD,e,show Str.empty.length=0 from rfl,show ("row" : Str).length=3 by decide +kernel,show (" " : Str).length=1 by decide +kernel]
 omega
theorem Oj {r:Rw}(h:RwL r):(uQ r).length≤377:=by
 have hb:=Nu h
 obtain ⟨k,gs⟩:=r
 cases gs with
 | none=>
  show ((j5 k ++ " ") ++ "home").length≤_
  rw [bD,bD,show (" " : Str).length=1 by decide +kernel,show ("home" : Str).length=4 by decide +kernel]
  dsimp only at hb
  omega
 | some gs=>
  obtain ⟨g1,g2⟩:=h.gl gs rfl
  show ((j5 k ++ " > ")++Ym gs).length≤_
  have:=(LR g1 g2).1
  rw [bD,bD,show (" > " : Str).length=3 by decide +kernel]
  dsimp only at hb
  omega
theorem Jm {p:Int×Int}(h1:0≤p.1∧p.1≤9) (h2:0≤p.2∧p.2≤9):(jy p).length≤8:=by
 unfold jy
 rw [bD,bD,bD,bD,bD,rQ h1.1 h1.2,rQ h2.1 h2.2,show Str.empty.length=0 from rfl,show ("road" : Str).length=4 by decide +kernel,show (" " : Str).length=1 by decide +kernel]
 omega
end PV
namespace PV.Law
open PySem PySem.W PySem.Calls PySem.Spec PyProof.Rows L2 PV
theorem Z0 {c:Ch}(h:ChL c) (s:DS):lE [eC c] s = .ok (.lst ((gA c).map .str)) s:=by
 show bnd (o8 [.va (eC c)]) endF s=_
 refine ak (a:=Fl.rt (.lst ((gA c).map .str))) (s':=s) ?_ rfl
 unfold o8 qJ
 refine ak (a:= .lst ((gA c).map .str)) (s':=s) ?_ rfl
 refine ak (a:=(gA c).map .str) (s':=s) ?_ rfl
 refine ak (a:=(gA c).map .str) (s':=s) ?_ ?_
 ·refine ak (a:= .str (jf c.1)) (s':=s) ?_ ?_
  ·exact ak (a:=[.int c.1]) (s':=s) rfl (RW h.d.1 h.d.2 s)
  ·refine ak (a:=c.2.map D.str) (s':=s) ?_ rfl
   refine ak (a:=eW c.2) (s':=s) rfl ?_
   refine ak (a:=c.2.map D.str) (s':=s) rfl ?_
   refine ak (a:=[]) (s':=s) rfl ?_
   rw [List.append_nil]
 ·have:=h.n
  rw [Xr,if_pos (by rw [List.length_map,sizeLine_eq];unfold gA;simp;omega)]
theorem YH {g:List Ch}(hn:g.length≤3) (h:∀c∈g,ChL c) (s:DS):pH [eG g] s = .ok (.str (Tj g)) s:=by
 show bnd (sW [.va (eG g),.un]) endF s=_
 refine ak (a:=Fl.rt (.str (Tj g))) (s':=s) ?_ rfl
 unfold sW tH
 refine ak (a:= .str (Tj g)) (s':=s) ?_ rfl
 unfold rE
 refine ak (a:= .str " , ") (s':=s) rfl ?_
 refine ak (a:= .lst ((g.map ZM).map .str)) (s':=s) ?_ (tL (by have:=(VR hn h).2;omega))
 refine ak (a:=(g.map ZM).map .str) (s':=s) ?_ rfl
 unfold qK
 refine ak (a:=g.map eC) (s':=s) rfl ?_
 rw [if_pos (by rw [List.length_map,sizeLine_eq];omega),List.map_map]
 refine lX eC (fun c=>D.str (ZM c)) g fun c hc=>⟨_,rfl,rfl,?_⟩
 refine ak (a:= .str " ") (s':=s) rfl ?_
 refine ak (a:= .lst ((gA c).map .str)) (s':=s) ?_ (tL (by have:=(RQ (h c hc)).2;omega))
 exact ak (a:=[eC c]) (s':=s) rfl (call_of (Z0 (h c hc) s))
theorem Yu {r:Rw}(h:RwL r) (s:DS):u6 [eR r] s = .ok (.str (uQ r)) s:=by
 have hb:=Nu h
 have ht:=MN h.tl
 have hd:=h.d
 have hg:=h.gl
 obtain ⟨⟨i,t⟩,gs⟩:=r
 show bnd (wF [.va (eR ((i,t),gs)),.un,.un,.un,.un,.un]) endF s=_
 refine ak (a:=Fl.rt (.str (uQ ((i,t),gs)))) (s':=s) ?_ rfl
 unfold wF
 rw [aJ (show xU _ s = .ok (.nx [.va (eR ((i,t),gs)),.un,.va (Fd gs),.va (.int i),.va (.str t),.un]) s from rfl)]
 have hl:∀a b:Str,a.length≤500000→b.length≤500000→(a++b).length≤1000000:=fun a b ha hb=>by rw [bD];omega
 dsimp only at hb ht hd hg
 have hn:=rQ hd.1 hd.2
 have l1:("row" : Str).length=3:=by decide +kernel
 have l2:(" " : Str).length=1:=by decide +kernel
 have l0:Str.empty.length=0:=rfl
 have e1:qO [.va (eR ((i,t),gs)),.un,.va (Fd gs),.va (.int i),.va (.str t),.un] s = .ok (.nx [.va (eR ((i,t),gs)),.va (.str (j5 (i,t))),.va (Fd gs),.va (.int i),.va (.str t),.un]) s:=by
  unfold qO
  refine ak (a:= .str (j5 (i,t))) (s':=s) ?_ rfl
  refine jw (y:= "row") (ak (a:= .str "row") (s':=s) rfl (KR (by rw [l1];omega) s)) (by rw [bD];omega) ?_
  refine jw (y:= " ") rfl (by rw [bD,bD];omega) ?_
  refine jw (y:=jf i) (ak (a:= .int i) (s':=s) rfl (KH hd.1 hd.2 s)) (by rw [bD,bD,bD];omega) ?_
  refine jw (y:= " ") rfl (by rw [bD,bD,bD,bD];omega) ?_
  refine jw (y:=wL t) ?_ (by rw [bD,bD,bD,bD,bD];omega) rfl
  refine ak (a:= .str (wL t)) (s':=s) ?_ (KR (by omega) s)
  refine ak (a:= !decide (t = "")) (s':=s) ?_ ?_
  ·exact ak (a:= .bl (!decide (t = ""))) (s':=s) rfl rfl
  ·unfold wL
   by_cases hz:t = ""
   ·rw [decide_eq_true hz,if_pos hz];rfl
   ·rw [decide_eq_false hz,if_neg hz];rfl
 rw [aJ e1]
 cases gs with
 | none=>
  have a1:m2 iT (m2 iT (au 1) (fun _=>ret (.str " "))) (fun _=>ret (.str "home")) [.va (eR ((i,t),none)),.va (.str (j5 (i,t))),.va (Fd none),.va (.int i),.va (.str t),.un] s = .ok (.str (uQ ((i,t),none))) s:=by
   refine dR (x:= .str (j5 (i,t) ++ " ")) (y:= .str "home") (s1:=s) (s2:=s) (dR (x:= .str (j5 (i,t))) (y:= .str " ") (s1:=s) (s2:=s) rfl rfl ?_) rfl ?_
   ·show (if (j5 (i,t)).length+(" " : Str).length≤sizeLine then ret (D.str (j5 (i,t) ++ " ")) else stk:M D) s=_
    rw [if_pos (by rw [sizeLine_eq];omega)]
   ·show (if (j5 (i,t) ++ " ").length+("home" : Str).length≤sizeLine then ret (D.str (j5 (i,t) ++ " " ++ "home")) else stk:M D) s=_
    rw [if_pos (by rw [sizeLine_eq,bD,show ("home" : Str).length=4 by decide +kernel];omega)]
    rfl
  rw [xQ,show iY [.va (eR ((i,t),none)),.va (.str (j5 (i,t))),.va (Fd none),.va (.int i),.va (.str t),.un] s = .ok (.rt (.str (uQ ((i,t),none)))) s from by
   unfold iY
   refine ak (a:=true) (s':=s) (by kernel_rfl) ?_
   rw [if_pos rfl]
   exact ak a1 rfl]
 | some gs=>
  obtain ⟨g1,g2⟩:=hg gs rfl
  have hne:(v7 (Fd (some gs)) (.str "home") s = .ok (.bl false) s):=by
   have e:D.pd (Fd (some gs))=some (Pq (some gs)):=aap _
   have hT:∀g∈gs,∀c∈g,ChT c:=fun g hg c hc x hx=>sE (((g2 g hg).2 c hc).w x hx)
   obtain ⟨q1,q2⟩:=Qo hT
   show K7 (D.pd (Fd (some gs))) (some (PyData.str "home")) _ s=_
   rw [e]
   have s1:SeqAt.shaped (Pq (some gs))=true:=by
    unfold SeqAt.shaped Pq
    dsimp only
    rw [PyData.canLay0,q1,PyData.depth]
    simp
    omega
   show (if SeqAt.shaped (Pq (some gs))=true∧SeqAt.shaped (.str "home")=true then ret (D.bl (PyData.eqv (Pq (some gs)) (.str "home"))) else stk:M D) s=_
   rw [if_pos ⟨s1,by decide +kernel⟩]
   unfold Pq
   dsimp only
   rw [PyData.eqv]
   all_goals first | rfl | (intros;simp_all)
  have hT:=(LR g1 g2).1
  rw [aJ (show iY [.va (eR ((i,t),some gs)),.va (.str (j5 (i,t))),.va (Fd (some gs)),.va (.int i),.va (.str t),.un] s = .ok (.nx [.va (eR ((i,t),some gs)),.va (.str (j5 (i,t))),.va (Fd (some gs)),.va (.int i),.va (.str t),.un]) s from by
   unfold iY
   exact ak (a:=false) (s':=s) (ak (dR (x:=Fd (some gs)) (y:= .str "home") (s1:=s) (s2:=s) rfl rfl hne) rfl) rfl)]
  unfold yq
  refine ak (a:= .str (uQ ((i,t),some gs))) (s':=s) ?_ rfl
  refine dR (x:= .str (j5 (i,t) ++ " > ")) (y:= .str (Ym gs)) (s1:=s) (s2:=s) (dR (x:= .str (j5 (i,t))) (y:= .str " > ") (s1:=s) (s2:=s) rfl rfl ?_) ?_ ?_
  ·show (if (j5 (i,t)).length+(" > " : Str).length≤sizeLine then ret (D.str (j5 (i,t) ++ " > ")) else stk:M D) s=_
   rw [if_pos (by rw [sizeLine_eq,show (" > " : Str).length=3 by decide +kernel];omega)]
  ·refine ak (a:= .str " / ") (s':=s) rfl ?_
   refine ak (a:= .lst ((gs.map Tj).map .str)) (s':=s) ?_ (tL (by have:=(LR g1 g2).2;omega))
   refine ak (a:=(gs.map Tj).map .str) (s':=s) ?_ rfl
   unfold qK
   refine ak (a:=gs.map eG) (s':=s) rfl ?_
   rw [if_pos (by rw [List.length_map,sizeLine_eq];omega),List.map_map]
   refine lX eG (fun g=>D.str (Tj g)) gs fun g hg=>⟨_,rfl,rfl,?_⟩
   exact ak (a:=[eG g]) (s':=s) rfl (call_of (YH (g2 g hg).1 (g2 g hg).2 s))
  ·show (if (j5 (i,t) ++ " > ").length+(Ym gs).length≤sizeLine then ret (D.str (j5 (i,t) ++ " > " ++ Ym gs)) else stk:M D) s=_
   rw [if_pos (by rw [sizeLine_eq,bD,show (" > " : Str).length=3 by decide +kernel];omega)]
   rfl
theorem Y5 {n:Net}{s:DS}(h:NetL n) (hok:bY [eN n] s = .ok (eN n) s):jT [eN n] s = .ok (.str (Ez n)) s:=by
 show bnd (rC [.va (eN n),.un,.un,.un,.un]) endF s=_
 refine ak (a:=Fl.rt (.str (Ez n))) (s':=s) ?_ rfl
 unfold rC
 rw [aJ (show qd _ s = .ok (.nx [.va (eN n),.un,.un,.un,.un]) s from ak (ak (a:=[eN n]) (s':=s) rfl (call_of hok)) rfl)]
 have hlab:=join_le (a:= " ") (ys:=Ad::n.labels) (n:=5) (b:=8) (k:=1) (by have:=h.l4;simp;omega) (fun y hy=>by
  rcases List.mem_cons.mp hy with rfl | hy
  ·decide +kernel
  ·exact h.lbl y hy) (by decide +kernel)
 have l1:("road" : Str).length=4:=by decide +kernel
 have l2:(" " : Str).length=1:=by decide +kernel
 have l0:Str.empty.length=0:=rfl
 have e1:qP [.va (eN n),.un,.un,.un,.un] s = .ok (.nx [.va (eN n),.va (.lst ((w6 n.labels::n.roads.map jy).map .str)),.un,.un,.un]) s:=by
  unfold qP
  refine ak (a:= .lst ((w6 n.labels::n.roads.map jy).map .str)) (s':=s) ?_ rfl
  refine ak (a:=(w6 n.labels::n.roads.map jy).map .str) (s':=s) ?_ rfl
  refine ak (a:= .lst [.str (w6 n.labels)]) (s':=s) ?_ ?_
  ·refine ak (a:=[.str (w6 n.labels)]) (s':=s) ?_ rfl
   refine ak (a:=[.str (w6 n.labels)]) (s':=s) ?_ (by rfl)
   refine ak (a:= .str (w6 n.labels)) (s':=s) ?_ rfl
   refine ak (a:= .str " ") (s':=s) rfl ?_
   refine ak (a:= .lst ((Ad::n.labels).map .str)) (s':=s) ?_ (tL (by have:=hlab.2;omega))
   refine ak (a:=(Ad::n.labels).map .str) (s':=s) ?_ rfl
   refine ak (a:=(Ad::n.labels).map .str) (s':=s) ?_ ?_
   ·refine ak (a:= .str Ad) (s':=s) rfl ?_
    refine ak (a:=n.labels.map D.str) (s':=s) ?_ rfl
    refine ak (a:=eW n.labels) (s':=s) rfl ?_
    refine ak (a:=n.labels.map D.str) (s':=s) rfl ?_
    refine ak (a:=[]) (s':=s) rfl ?_
    rw [List.append_nil]
   ·have:=h.l4
    rw [Xr,if_pos (by rw [List.length_map,sizeLine_eq];simp;omega)]
  ·refine ak (a:= .lst ((n.roads.map jy).map .str)) (s':=s) ?_ ?_
   ·refine ak (a:=(n.roads.map jy).map .str) (s':=s) ?_ rfl
    unfold qK
    refine ak (a:=n.roads.map eP) (s':=s) rfl ?_
    have:=h.r10
    rw [if_pos (by rw [List.length_map,sizeLine_eq];omega),List.map_map]
    refine lX eP (fun p=>D.str (jy p)) n.roads fun p hp=>⟨_,rfl,rfl,?_⟩
    obtain ⟨h1,h2⟩:=h.rd p hp
    have n1:=rQ h1.1 h1.2
    have n2:=rQ h2.1 h2.2
    refine jw (y:= "road") (ak (a:= .str "road") (s':=s) rfl (KR (by rw [l1];omega) s)) (by rw [bD];omega) ?_
    refine jw (y:= " ") rfl (by rw [bD,bD];omega) ?_
    refine jw (y:=jf p.1) (ak (a:= .int p.1) (s':=s) rfl (KH h1.1 h1.2 s)) (by rw [bD,bD,bD];omega) ?_
    refine jw (y:= " ") rfl (by rw [bD,bD,bD,bD];omega) ?_
    exact jw (y:=jf p.2) (ak (a:= .int p.2) (s':=s) rfl (KH h2.1 h2.2 s)) (by rw [bD,bD,bD,bD,bD];omega) rfl
   ·show (if [D.str (w6 n.labels)].length+((n.roads.map jy).map D.str).length≤sizeLine then ret ([D.str (w6 n.labels)]++(n.roads.map jy).map D.str) else stk:M (List D)) s=_
    have:=h.r10
    rw [if_pos (by rw [List.length_map,List.length_map,sizeLine_eq];simp;omega)]
    rfl
 rw [aJ e1]
 unfold wJ
 refine ak (a:= .str (Ez n)) (s':=s) ?_ rfl
 refine ak (a:= .str "\n") (s':=s) rfl ?_
 have hsum:=join_le (a:= "\n") (ys:=yP n) (n:=111) (b:=377) (k:=1) (by unfold yP;have:=h.r10;have:=h.n100;simp;omega) (fun y hy=>by
  unfold yP at hy
  rcases List.mem_append.mp hy with z | z
  ·rcases List.mem_cons.mp z with rfl | z
   ·have:=hlab.1
    unfold w6 zX
    omega
   ·obtain ⟨p,hp,rfl⟩:=List.mem_map.mp z
    have:=Jm (h.rd p hp).1 (h.rd p hp).2
    omega
  ·obtain ⟨r,hr,rfl⟩:=List.mem_map.mp z
   exact Oj (h.rwl r hr)) (by decide +kernel)
 refine ak (a:= .lst ((yP n).map .str)) (s':=s) ?_ (tL (by have:=hsum.2;omega))
 refine ak (a:=(yP n).map .str) (s':=s) ?_ rfl
 refine ak (a:= .lst ((w6 n.labels::n.roads.map jy).map .str)) (s':=s) rfl ?_
 refine ak (a:= .lst ((n.rows.map uQ).map .str)) (s':=s) ?_ ?_
 ·refine ak (a:=(n.rows.map uQ).map .str) (s':=s) ?_ rfl
  unfold qK
  refine ak (a:=n.rows.map eR) (s':=s) rfl ?_
  have:=h.n100
  rw [if_pos (by rw [List.length_map,sizeLine_eq];omega),List.map_map]
  refine lX eR (fun r=>D.str (uQ r)) n.rows fun r hr=>⟨_,rfl,rfl,?_⟩
  exact ak (a:=[eR r]) (s':=s) rfl (call_of (Yu (h.rwl r hr) s))
 ·show (if ((w6 n.labels::n.roads.map jy).map D.str).length+((n.rows.map uQ).map D.str).length≤sizeLine then ret ((w6 n.labels::n.roads.map jy).map D.str++(n.rows.map uQ).map D.str) else stk:M (List D)) s=_
  have:=h.r10
  have:=h.n100
  rw [if_pos (by rw [List.length_map,List.length_map,List.length_map,sizeLine_eq];simp;omega)]
  unfold yP
  rw [List.map_append]
end PV.Law
namespace PV
open PySem PySem.W PySem.Calls PyProof.Rows L2
abbrev sS (o:Nat):D:= .int (o:Int)
theorem Nb:∀l:List Nat,PyData.canLayAll0 (l.map fun o:Nat=>PyData.int (o:Int))=true
 | []=>rfl
 | x::l=>by rw [List.map_cons,PyData.canLayAll0,Nb l];rfl
theorem Ig:∀l:List Nat,PyData.depthAll (l.map fun o:Nat=>PyData.int (o:Int))=0
 | []=>rfl
 | x::l=>by rw [List.map_cons,PyData.depthAll,Ig l];rfl
theorem Mz (os:List Nat) (s:DS):v7 (.lst (os.map sS)) (.lst []) s = .ok (.bl (decide (os=[]))) s:=by
 show K7 (D.pd (.lst (os.map sS))) (some (PyData.list [])) _ s=_
 have e1:D.pd (.lst (os.map sS))=some (.list (os.map fun o:Nat=>PyData.int (o:Int))):=by
  show (D.tM (os.map sS)).map PyData.list=_
  rw [fU (g:=fun o:Nat=>PyData.int (o:Int)) _ (fun _=>rfl)]
  rfl
 have s1:SeqAt.shaped (.list (os.map fun o:Nat=>PyData.int (o:Int)))=true:=by
  unfold SeqAt.shaped
  rw [PyData.canLay0,Nb,PyData.depth,Ig]
  rfl
 rw [e1]
 show (if SeqAt.shaped (.list (os.map fun o:Nat=>PyData.int (o:Int)))=true∧SeqAt.shaped (.list [])=true then ret (D.bl (PyData.eqv (.list (os.map fun o:Nat=>PyData.int (o:Int))) (.list []))) else stk) s=_
 rw [if_pos ⟨s1,by decide +kernel⟩,PyData.eqv]
 cases os with
 | nil=>rfl
 | cons r rs=>rfl
theorem TV {g:List Ch}(h:∀c∈g,∀x∈c.2,PyData.strOk x=true):SeqAt.shaped (.list (g.map pC))=true:=by
 unfold SeqAt.shaped
 rw [PyData.canLay0,wD h,PyData.depth]
 have:=qI g
 simp
 omega
theorem aaQ {c:Ch}{g:List Ch}(hc:∀x∈c.2,PyData.strOk x=true) (hg:∀c∈g,∀x∈c.2,PyData.strOk x=true) (s:DS):Ai (eC c) (.lst (g.map eC)) s = .ok (.bl (!decide (c∈g))) s:=by
 show K7 (eC c).pd (D.tM (g.map eC)) _ s=_
 rw [fU (g:=pC) _ Xf,Xf]
 show (if SeqAt.shaped (pC c)=true∧SeqAt.shaped (.list (g.map pC))=true then ret (D.bl (!mH (pC c) (g.map pC))) else stk) s=_
 rw [if_pos ⟨Ge hc,TV hg⟩,Rc]
def SqP (m':MS) (Q:Fl→DS→Prop):Fl→DS→Prop
 | .nx l,s=>Wp (m' l s) Q
 | f,s=>Q f s
theorem Wp.sq {m m':MS}{ls:List Sl}{s:DS}{Q:Fl→DS→Prop}(h:Wp (m ls s) (SqP m' Q)):Wp (aR m m' ls s) Q:=by
 obtain ⟨f,s',e,h⟩:=h
 cases f with
 | nx l=>
  rw [aJ e]
  exact h
 | _=>exact ⟨_,s',by rw [xQ,e],h⟩
structure GrOk (roads:List (Int×Int)) (labels:List Str) (n:Nat) (g:List Ch):Prop where
 l1:1≤g.length
 l3:g.length≤3
 nd:g.Nodup
 ch:∀c∈g,ChOk roads labels n c
def Hl (roads:List (Int×Int)) (n:Nat):Prop:=∃(o:Nat) (p q:Int×Int),roads[o]?=some p∧roads[n]?=some q∧p.1=q.2
end PV
namespace PV.Law
open PySem PySem.W PySem.Calls PyProof.Rows L2 PV
section
variable {am:Addr}
abbrev O9 (am:Addr) (roads:List (Int×Int)) (labels:List Str) (n:Nat) (most:Int) (l:List Sl):List Sl:= .va (.raw (.ref am)) :: .va (.tup (roads.map eP)) :: .va (eW labels) :: .va (.int (n:Int)) :: .va (.int most)::l
theorem abh {roads:List (Int×Int)}{labels:List Str}{n:Nat}{most:Int}{s:DS}{Q:Fl→DS→Prop}(hr:roads.length≤10) (hn:n<roads.length)
  (k:∀os:List Nat,os.length≤10→(∀o∈os,∃p q,roads[o]?=some p∧roads[n]?=some q∧p.1=q.2)→(Hl roads n→os≠[])→Q (.nx (O9 am roads labels n most [.va (.lst (os.map sS)),.un,.un,.un])) s) :
  Wp (mZ (O9 am roads labels n most [.un,.un,.un,.un]) s) Q:=by
 unfold mZ
 have hq:roads[n]?=some roads[n]:=List.getElem?_eq_getElem hn
 have e:=rN (n:=(roads.length:Int)) (s:=s) (by omega) (by omega)
 rw [Int.toNat_natCast] at e
 refine Wp.bnd (Wp.qK (Wp.bnd (Wp.pD (Wp.of_eq (a:= .int (roads.length:Int)) (s:=s) (by simp) ?_))))
 refine Wp.of_eq e ⟨by rw [gU];omega,?_⟩
 refine Wp.lcE (fun i ys s'=>s'=s∧∃os:List Nat,ys=os.map sS∧os.length≤i∧(∀o∈os,∃p q,roads[o]?=some p∧roads[n]?=some q∧p.1=q.2)∧∀o p q,o<i→roads[o]?=some p→roads[n]?=some q→p.1=q.2→o∈os) ⟨rfl,[],rfl,Nat.le_refl _,by simp,fun o p q h=>by omega⟩ (fun i d hd acc s' hI=> ?_) (fun ys s' hle hI=> ?_)
 ·obtain ⟨rfl,os,rfl,lo,ho,hc⟩:=hI
  obtain ⟨hi,rfl⟩:=mj hd
  have hp:roads[i]?=some roads[i]:=List.getElem?_eq_getElem hi
  have e1:atI (roads.map eP) (i:Int)=some (eP roads[i]):=oE hp
  have e2:atI (roads.map eP) (n:Int)=some (eP roads[n]):=oE hq
  refine ⟨_,rfl,decide (roads[i].1=roads[n].2),s',?_,fun hb=> ?_,fun hb=>⟨rfl,os,rfl,by omega,ho,fun o p q h1 h2 h3 h4=> ?_⟩⟩
  ·simp [jA,e1,e2,eP]
  ·refine Wp.of_eq (a:=sS i) (s:=s') (by simp [jA]) ⟨rfl,os++[i],by simp,by simp;omega,fun o hm=> ?_,fun o p q h1 h2 h3 h4=> ?_⟩
   ·rcases List.mem_append.mp hm with z | z
    ·exact ho o z
    ·rw [List.mem_singleton.mp z]
     exact ⟨_,_,hp,hq,of_decide_eq_true hb⟩
   ·by_cases hoi:o=i
    ·rw [hoi];simp
    ·exact List.mem_append_left _ (hc o p q (by omega) h2 h3 h4)
  ·by_cases hoi:o=i
   ·subst hoi
    rw [hp] at h2
    rw [hq] at h3
    cases h2
    cases h3
    exact absurd h4 (of_decide_eq_false hb)
   ·exact hc o p q (by omega) h2 h3 h4
 obtain ⟨rfl,os,rfl,lo,ho,hc⟩:=hI
 rw [gU] at lo hc
 refine Wp.ok (k os (by omega) ho fun hh z=> ?_)
 obtain ⟨o,p,q,h1,h2,h3⟩:=hh
 have:=hc o p q (List.getElem?_eq_some_iff.mp h1).1 h1 h2 h3
 rw [z] at this
 exact absurd this (by simp)
theorem M6 {roads:List (Int×Int)}{labels:List Str}{n:Nat}{most:Int}{s:DS}{Q:D→DS→Prop}(h:DOk am s) (hs:s.spot<900000000) (hr:roads.length≤10) (hn:n<roads.length) (hl:1≤labels.length∧labels.length≤4) (w0:0≤most) (w3:most≤3)
  (kn:¬Hl roads n→Q .non s) (k:Hl roads n→∀(c:Ch) s',ChOk roads labels n c→DOk am s'→s'.spot≤s.spot+5→Q (eC c) s') :
  Wp (gG [.raw (.ref am),.tup (roads.map eP),eW labels,.int (n:Int),.int most] s) Q:=by
 refine Wp.run ?_
 unfold zu
 refine Wp.sq (abh hr hn fun os lo ho hc=> ?_)
 show Wp (aR nu _ (O9 am roads labels n most [.va (.lst (os.map sS)),.un,.un,.un]) s) _
 have en:=Mz os s
 refine Wp.sq ?_
 unfold nu
 refine Wp.ifS (Wp.of_eq (a:=decide (os=[])) (s:=s) (ak (dR (x:= .lst (os.map sS)) (y:= .lst []) (s1:=s) (s2:=s) rfl rfl en) rfl) ⟨fun hb=> ?_,fun hb=> ?_⟩)
 ·have hz:os=[]:=of_decide_eq_true hb
  refine Wp.of_eq (a:= .rt .non) (s:=s) rfl ?_
  exact Wp.ok (kn fun hh=>hc hh hz)
 have hne:os≠[]:=of_decide_eq_false hb
 have hh:Hl roads n:=by
  obtain ⟨o,hm⟩:=List.exists_mem_of_ne_nil os hne
  obtain ⟨p,q,h1,h2,h3⟩:=ho o hm
  exact ⟨o,p,q,h1,h2,h3⟩
 refine Wp.of_eq (a:= .nx (O9 am roads labels n most [.va (.lst (os.map sS)),.un,.un,.un])) (s:=s) rfl ?_
 show Wp (aR m7 _ (O9 am roads labels n most [.va (.lst (os.map sS)),.un,.un,.un]) s) _
 refine Wp.sq ?_
 unfold m7
 refine Wp.bnd (Wp.m2 (Wp.of_eq (a:= .lst (os.map sS)) (s:=s) rfl ?_))
 have hpos:0<os.length:=List.length_pos_iff.mpr hne
 refine Wp.Ik (i:=0) (l:=(os.length:Int)) (by rfl) (ak (a:=[.lst (os.map sS)]) (s':=s) rfl (by rw [Qq,List.length_map])) h (by omega) (by omega) (by omega) fun r s2 r0 r1 k2 p2=> ?_
 obtain ⟨o,hmo,eo⟩:=yH (f:=sS) (xs:=os) r0 r1
 refine Wp.of_eq (a:=sS o) (s:=s2) (by show oG (atI (os.map sS) r) s2=_;rw [eo];rfl) (Wp.ok ?_)
 show Wp (aR nH _ (O9 am roads labels n most [.va (.lst (os.map sS)),.va (sS o),.un,.un]) s2) _
 refine Wp.sq ?_
 unfold nH
 refine Wp.bnd (Wp.m2 (Wp.of_eq (a:= .lst [.int 1,.int 0,.int 1,.int most]) (s:=s2) (by kernel_rfl) ?_))
 refine Wp.Ik (i:=0) (l:=4) rfl rfl k2 (by omega) (by omega) (by omega) fun r s1 r0 r1 k1 p1=> ?_
 obtain ⟨v,ev,v0,v3⟩:∃v:Int,dJ (.lst [.int 1,.int 0,.int 1,.int most]) (.int r) s1 = .ok (.int v) s1∧0≤v∧v≤3:=by
  have:r=0∨r=1∨r=2∨r=3:=by omega
  rcases this with rfl | rfl | rfl | rfl
  ·exact ⟨1,rfl,by omega,by omega⟩
  ·exact ⟨0,rfl,by omega,by omega⟩
  ·exact ⟨1,rfl,by omega,by omega⟩
  ·exact ⟨most,rfl,w0,w3⟩
 refine Wp.of_eq ev (Wp.ok ?_)
 show Wp (ni (O9 am roads labels n most [.va (.lst (os.map sS)),.va (sS o),.va (.int v),.un]) s1) _
 unfold ni
 refine Wp.rt (Wp.bnd (Wp.cons (Wp.of_eq (a:=sS o) (s:=s1) rfl (Wp.pD ?_))))
 refine Wp.bnd (Wp.pD (Wp.mL (Wp.qK ?_)))
 refine Wp.bnd (Wp.pD (Wp.of_eq (a:= .int v) (s:=s1) rfl ?_))
 refine Wp.of_eq (rN v0 (by omega)) ⟨by rw [gU];omega,?_⟩
 refine Wp.lcE (fun i ys s'=>∃w:List Str,ys=w.map D.str∧(∀x∈w,x∈labels)∧DOk am s'∧s'.spot≤s1.spot+i) ⟨[],rfl,by simp,k1,by simp⟩ (fun i d hd acc s' hI=> ?_) (fun ys s' hlen hI=> ?_)
 ·obtain ⟨w,rfl,hw,k2,p2⟩:=hI
  obtain ⟨hi,rfl⟩:=mj hd
  refine ⟨_,rfl,true,s',rfl,fun _=> ?_,fun z=>(nomatch z)⟩
  refine Wp.m2 (Wp.of_eq (a:=eW labels) (s:=s') (by simp [jA]) ?_)
  refine (Wp.Ik (i:=0) (l:=(labels.length:Int)) (by simp [jA]) (by simp [jA,eW]) k2 (by omega) (by omega) (by omega) fun r s2 r0 r2 k3 p3=> ?_)
  obtain ⟨x,hx,ex⟩:=yH (f:=D.str) r0 r2
  refine Wp.of_eq (a:= .str x) (s:=s2) ?_ ⟨w++[x],by simp,?_,k3,by omega⟩
  ·show oG (atI (labels.map D.str) r) s2=_
   rw [ex];rfl
  ·intro y hy
   rcases List.mem_append.mp hy with h | h
   ·exact hw y h
   ·rw [List.mem_singleton.mp h];exact hx
 ·obtain ⟨w,rfl,hw,k2,p2⟩:=hI
  rw [gU] at hlen p2
  rw [List.length_map] at hlen
  refine Wp.of_eq (a:=eW w) (s:=s') rfl (Wp.of_eq (a:=eC ((o:Int),w)) (s:=s') rfl (Wp.ok ?_))
  obtain ⟨p,q,a1,a2,a3⟩:=ho o hmo
  exact k hh ((o:Int),w) s' ⟨⟨o,p,q,rfl,a1,a2,a3⟩,by show w.length≤3;omega,hw⟩ k2 (by omega)
abbrev CJ (am:Addr) (roads:List (Int×Int)) (labels:List Str) (n:Nat) (most:Int) (l:List Sl):List Sl:=O9 am roads labels n most l
theorem Ze {roads:List (Int×Int)}{labels:List Str}{n:Nat}{most:Int}{gs:List (List Ch)}{x6 x7 x8 x9:Sl}{s:DS}{Q:Fl→DS→Prop}(h:DOk am s) (hs:s.spot<800000000) (hr:roads.length≤10) (hn:n<roads.length) (hl:1≤labels.length∧labels.length≤4) (hS:Av labels) (w0:0≤most) (w3:most≤3) (hh:Hl roads n) (lg:gs.length≤100)
  (k:∀(g:List Ch) (s':DS) (y7 y8 y9:Sl),g.length≤2→GrOk roads labels n g→DOk am s'→s'.spot≤s.spot+11→Q (.nx (CJ am roads labels n most [.ow ((gs++[g]).map eG),x6,y7,y8,y9])) s') :
  Wp (o7 (CJ am roads labels n most [.ow (gs.map eG),x6,x7,x8,x9]) s) Q:=by
 unfold o7
 refine Wp.seq (Wp.of_eq (a:= .nx (CJ am roads labels n most [.ow (gs.map eG),x6,.ow (([]:List Ch).map eC),x8,x9])) (s:=s) rfl ⟨_,rfl,?_⟩)
 refine Wp.sq ?_
 unfold qC
 refine Wp.bnd (Wp.bnd (Wp.pD (Wp.m2 (Wp.of_eq (a:= .int 1) (s:=s) rfl ?_))))
 refine Wp.Ik (i:=0) (l:=2) rfl rfl h (by omega) (by omega) (by omega) fun r s1 r0 r1 k1 p1=> ?_
 refine Wp.of_eq (a:= .int (1+r)) (s:=s1) rfl (Wp.of_eq (rN (by omega) (by omega)) ?_)
 refine Wp.lp (fun i ls s'=>∃(y8 y9:Sl) (g:List Ch),ls=CJ am roads labels n most [.ow (gs.map eG),x6,.ow (g.map eC),y8,y9]∧g.length≤i∧(1≤i→1≤g.length)∧g.Nodup∧(∀c∈g,ChOk roads labels n c)∧DOk am s'∧s'.spot≤s1.spot+5*i)
  ⟨_,_,[],rfl,by simp,by omega,by simp,by simp,k1,by omega⟩ (fun i d hd ls s' hI=> ?_) (fun ls s' hI=> ?_)
 ·obtain ⟨y8,y9,g,rfl,gl,g1,nd,hg,k2,p2⟩:=hI
  obtain ⟨hi,rfl⟩:=mj hd
  refine ⟨_,rfl,?_⟩
  unfold vY
  refine Wp.sq ?_
  unfold qF
  refine Wp.bnd (Wp.bnd (Wp.of_eq (a:=[.raw (.ref am),.tup (roads.map eP),eW labels,.int (n:Int),.int most]) (s:=s') rfl ?_))
  show Wp (gG [.raw (.ref am),.tup (roads.map eP),eW labels,.int (n:Int),.int most] s') _
  refine M6 k2 (by omega) hr hn hl w0 w3 (fun z=>absurd hh z) fun _ c s2 hc k3 p3=>Wp.ok ?_
  show Wp (jK (CJ am roads labels n most [.ow (gs.map eG),x6,.ow (g.map eC),.va (.int (i:Int)),.va (eC c)]) s2) _
  unfold jK
  have e1:=aaQ (c:=c) (g:=g) (hc.str hS) (fun c hm=>(hg c hm).str hS) s2
  refine Wp.ifS (Wp.of_eq (a:= !decide (c∈g)) (s:=s2) (ak (dR (x:=eC c) (y:= .lst (g.map eC)) (s1:=s2) (s2:=s2) rfl rfl e1) rfl) ⟨fun hb=> ?_,fun hb=> ?_⟩)
  ·have hm:c∉g:=by simpa using hb
   refine Wp.app (ds:=g.map eC) rfl (by rw [List.length_map];omega) ?_
   refine Wp.of_eq (a:=eC c) (s:=s2) rfl ⟨_,rfl,_,_,g++[c],by rw [List.map_append];rfl,by simp;omega,by simp,?_,fun c' hc'=> ?_,k3,by omega⟩
   ·exact List.nodup_append.mpr ⟨nd,by simp,fun a ha b hb e=>by rw [List.mem_singleton.mp hb] at e;exact hm (e ▸ ha)⟩
   ·rcases List.mem_append.mp hc' with q | q
    ·exact hg c' q
    ·rw [List.mem_singleton.mp q];exact hc
  ·have hm:c∈g:=by simpa using hb
   exact Wp.of_eq (a:= .nx (CJ am roads labels n most [.ow (gs.map eG),x6,.ow (g.map eC),.va (.int (i:Int)),.va (eC c)])) (s:=s2) rfl ⟨_,rfl,_,_,g,rfl,by omega,fun _=>List.length_pos_of_mem hm,nd,hg,k3,by omega⟩
 ·obtain ⟨y8,y9,g,rfl,gl,g1,nd,hg,k2,p2⟩:=hI
  rw [gU] at gl g1 p2
  show Wp (jN (CJ am roads labels n most [.ow (gs.map eG),x6,.ow (g.map eC),y8,y9]) s') _
  unfold jN
  refine Wp.app (ds:=gs.map eG) rfl (by rw [List.length_map];omega) ?_
  refine Wp.of_eq (a:=eG g) (s:=s') rfl ?_
  have:=k g s' (.ow (g.map eC)) y8 y9 (by omega) ⟨g1 (by omega),by omega,nd,hg⟩ k2 (by omega)
  rw [List.map_append] at this
  exact this
theorem VB {roads:List (Int×Int)}{labels:List Str}{n:Nat}{most:Int}{s:DS}{Q:D→DS→Prop}(h:DOk am s) (hs:s.spot<700000000) (hr:roads.length≤10) (hn:n<roads.length) (hl:1≤labels.length∧labels.length≤4) (hS:Av labels) (w0:0≤most) (w3:most≤3)
  (k:∀(g:Gs) s',(∀gs,g=some gs→(1≤gs.length∧gs.length≤2)∧∀x∈gs,x.length≤2∧GrOk roads labels n x)→DOk am s'→s'.spot≤s.spot+50→Q (Fd g) s') :
  Wp (j8 [.raw (.ref am),.tup (roads.map eP),eW labels,.int (n:Int),.int most] s) Q:=by
 refine Wp.run ?_
 unfold zB
 refine Wp.sq ?_
 unfold tW
 have home:∀s1,DOk am s1→s1.spot≤s.spot+50→Wp (cW (fun _=>ret (.str "home")) (CJ am roads labels n most [.un,.un,.un,.un,.un]) s1) (SqP (aR mV (aR nJ jd)) fun f s'=>Wp (endF f s') Q):=fun s1 k1 p1=>by
  refine Wp.of_eq (a:= .rt (.str "home")) (s:=s1) rfl ?_
  exact Wp.ok (k none s1 (fun gs z=>nomatch z) k1 p1)
 refine Wp.ifS (Wp.or (Wp.bnd (Wp.m2 ?_)))
 refine Wp.Ik (i:=0) (l:=6) rfl rfl h (by omega) (by omega) (by omega) fun r s1 r0 r1 k1 p1=> ?_
 refine Wp.of_eq (a:= .int 0) (s:=s1) rfl (Wp.of_eq (a:= .bl (decide (r=0))) (s:=s1) rfl (Wp.of_eq (a:=decide (r=0)) (s:=s1) rfl ⟨fun hb=>⟨fun _=>home s1 k1 (by omega),fun z=>(nomatch z)⟩,fun hb=> ?_⟩))
 refine Wp.bnd (Wp.m2 (Wp.bnd (Wp.of_eq (a:=[.raw (.ref am),.tup (roads.map eP),eW labels,.int (n:Int),.int 0]) (s:=s1) rfl ?_)))
 show Wp (gG [.raw (.ref am),.tup (roads.map eP),eW labels,.int (n:Int),.int 0] s1) _
 refine M6 k1 (by omega) hr hn hl (by omega) (by omega) (fun hno=> ?_) fun hh c s2 hc k2 p2=> ?_
 ·refine Wp.of_eq (a:= .non) (s:=s1) rfl (Wp.of_eq (a:= .bl true) (s:=s1) rfl (Wp.of_eq (a:=true) (s:=s1) rfl ⟨fun _=>home s1 k1 (by omega),fun z=>(nomatch z)⟩))
 refine Wp.of_eq (a:= .non) (s:=s2) rfl (Wp.of_eq (a:= .bl false) (s:=s2) rfl (Wp.of_eq (a:=false) (s:=s2) rfl ⟨fun z=>(nomatch z),fun _=> ?_⟩))
 refine Wp.of_eq (a:= .nx (CJ am roads labels n most [.un,.un,.un,.un,.un])) (s:=s2) rfl ?_
 show Wp (aR mV _ (CJ am roads labels n most [.un,.un,.un,.un,.un]) s2) _
 refine Wp.seq (Wp.of_eq (a:= .nx (CJ am roads labels n most [.ow (([]:List (List Ch)).map eG),.un,.un,.un,.un])) (s:=s2) rfl ⟨_,rfl,?_⟩)
 refine Wp.sq ?_
 unfold nJ
 refine Wp.bnd (Wp.bnd (Wp.pD (Wp.m2 (Wp.of_eq (a:= .int 1) (s:=s2) rfl ?_))))
 refine Wp.Ik (i:=0) (l:=2) rfl rfl k2 (by omega) (by omega) (by omega) fun q s3 q0 q1 k3 p3=> ?_
 refine Wp.of_eq (a:= .int (1+q)) (s:=s3) rfl (Wp.of_eq (rN (by omega) (by omega)) ?_)
 refine Wp.lp (fun i ls s'=>∃(y6 y7 y8 y9:Sl) (gs:List (List Ch)),ls=CJ am roads labels n most [.ow (gs.map eG),y6,y7,y8,y9]∧gs.length=i∧(∀x∈gs,x.length≤2∧GrOk roads labels n x)∧DOk am s'∧s'.spot≤s3.spot+11*i)
  ⟨_,_,_,_,[],rfl,rfl,by simp,k3,by omega⟩ (fun i d hd ls s' hI=> ?_) (fun ls s' hI=> ?_)
 ·obtain ⟨y6,y7,y8,y9,gs,rfl,gl,hg,k4,p4⟩:=hI
  obtain ⟨hi,rfl⟩:=mj hd
  refine ⟨_,rfl,?_⟩
  refine Ze k4 (by omega) hr hn hl hS w0 w3 hh (by omega) fun g s5 z7 z8 z9 g2 hgo k5 p5=>⟨_,rfl,_,_,_,_,gs++[g],rfl,by simp;omega,fun x hx=> ?_,k5,by omega⟩
  rcases List.mem_append.mp hx with z | z
  ·exact hg x z
  ·rw [List.mem_singleton.mp z];exact ⟨g2,hgo⟩
 ·obtain ⟨y6,y7,y8,y9,gs,rfl,gl,hg,k4,p4⟩:=hI
  rw [gU] at gl p4
  show Wp (jd (CJ am roads labels n most [.ow (gs.map eG),y6,y7,y8,y9]) s') _
  unfold jd
  refine Wp.rt (Wp.of_eq (a:=Fd (some gs)) (s:=s') rfl (Wp.ok ?_))
  exact k (some gs) s' (fun gs' e=>by cases e;exact ⟨⟨by omega,by omega⟩,hg⟩) k4 (by omega)
end
end PV.Law
namespace PV
open PySem PySem.W PySem.Calls PyProof.Rows L2
def d9:List (List Str):=[["a"],["a","b"],["b"],["b","a"],["row"],["row","home"],["lost"],["lost","x"]]
def Fp:List Str:=["","a","b","home","lost","row","x"]
def jt (l:List Str):List Str:=Fp.filter fun t=>t == "" || l.contains t
def BX (n m:Nat) (t u:Str):Bool:=dataLt (pK ((n:Int),t)) (pK ((m:Int),u))
theorem Xu:∀n<10,∀m<10,n<m→∀t∈Fp,∀u∈Fp,BX n m t u=true:=by decide +kernel
def Vz (n:Nat) (l:List Str) (i j:Nat):Bool:=match (jt l)[i]?,(jt l)[j]? with
 | some t,some u=>BX n n t u
 | _,_=>true
theorem Zu:∀n<10,∀l∈d9,∀i<5,∀j<5,i<j→Vz n l i j=true:=by decide +kernel
theorem ZC {n:Nat}(hn:n<10) {l:List Str}(hl:l∈d9) {i j:Nat}(hi:i<5) (hj:j<5) (h:i<j) {t u:Str}(ht:(jt l)[i]?=some t) (hu:(jt l)[j]?=some u):BX n n t u=true:=by
 have:=Zu n hn l hl i hi j hj h
 unfold Vz at this
 rw [ht,hu] at this
 exact this
theorem Gj {l:List Str}{t:Str}(h:t∈jt l):t∈Fp∧(t∈l∨t = ""):=by
 unfold jt at h
 obtain ⟨h1,h2⟩:=List.mem_filter.mp h
 refine ⟨h1,?_⟩
 rw [Bool.or_eq_true] at h2
 rcases h2 with h | h
 ·exact Or.inr (by simpa using h)
 ·exact Or.inl (by simpa using h)
theorem yx:∀l∈d9,(1≤l.length∧l.length≤2)∧(jt l).length=l.length+1∧(∀y∈l,PyData.strOk y=true)∧∀y∈l,isW y=true:=by decide +kernel
end PV
namespace PV.Law
open PySem PySem.W PySem.Calls PyProof.Rows L2 PV
theorem ac3:∀l∈d9,aal l:=by
 intro l hl s
 simp only [d9,List.mem_cons,List.not_mem_nil,or_false] at hl
 rcases hl with rfl | rfl | rfl | rfl | rfl | rfl | rfl | rfl<;>kernel_rfl
theorem M5:∀l∈d9,∀s:DS,Fg [.tup (l.map D.str++[.str ""])] s = .ok ((jt l).map D.str) s:=by
 intro l hl s
 simp only [d9,List.mem_cons,List.not_mem_nil,or_false] at hl
 rcases hl with rfl | rfl | rfl | rfl | rfl | rfl | rfl | rfl<;>kernel_rfl
section
variable {am:Addr}
theorem abI {s:DS}{Q:D→DS→Prop}(h:DOk am s) (hs:s.spot<900000000) (k:∀l s',l∈d9→DOk am s'→s'.spot≤s.spot+2→Q (eW l) s'):Wp (fY [.raw (.ref am)] s) Q:=by
 refine Wp.run ?_
 unfold rW
 refine Wp.sq ?_
 unfold oK
 refine Wp.bnd (Wp.m2 (Wp.of_eq (a:= .lst [.tup [.str "a",.str "b"],.tup [.str "b",.str "a"],.tup [.str "row",.str "home"],.tup [.str "lost",.str "x"]]) (s:=s) (by kernel_rfl) ?_))
 refine Wp.Ik (i:=0) (l:=4) rfl rfl h (by omega) (by omega) (by omega) fun r s1 r0 r1 k1 p1=> ?_
 have main:∀(x y:Str),([x]∈d9∧[x,y]∈d9)→Wp (jc [.va (.raw (.ref am)),.va (.str x),.va (.str y)] s1) (fun f s'=>Wp (endF f s') Q):=fun x y hxy=>by
  unfold jc
  refine Wp.rt ?_
  unfold Pr
  refine Wp.bnd (Wp.of_eq (a:= .tup [.str x,.str y]) (s:=s1) (by kernel_rfl) (Wp.bnd (Wp.ok (Wp.bnd (Wp.bnd (Wp.m2 (Wp.of_eq (a:= .int 1) (s:=s1) rfl ?_)))))))
  refine Wp.Ik (i:=0) (l:=2) rfl rfl k1 (by omega) (by omega) (by omega) fun q s2 q0 q1 k2 p2=> ?_
  refine Wp.of_eq (a:= .int (1+q)) (s:=s2) rfl (Wp.of_eq (a:=some (1+q)) (s:=s2) rfl ?_)
  have:q=0∨q=1:=by omega
  rcases this with rfl | rfl
  ·exact Wp.of_eq (a:=eW [x]) (s:=s2) (by kernel_rfl) (Wp.ok (k [x] s2 hxy.1 k2 (by omega)))
  ·exact Wp.of_eq (a:=eW [x,y]) (s:=s2) (by kernel_rfl) (Wp.ok (k [x,y] s2 hxy.2 k2 (by omega)))
 have:r=0∨r=1∨r=2∨r=3:=by omega
 rcases this with rfl | rfl | rfl | rfl
 ·exact Wp.of_eq (a:= .tup [.str "a",.str "b"]) (s:=s1) (by kernel_rfl) (Wp.of_eq (a:= .nx [.va (.raw (.ref am)),.va (.str "a"),.va (.str "b")]) (s:=s1) rfl (by exact main "a" "b" (by decide +kernel)))
 ·exact Wp.of_eq (a:= .tup [.str "b",.str "a"]) (s:=s1) (by kernel_rfl) (Wp.of_eq (a:= .nx [.va (.raw (.ref am)),.va (.str "b"),.va (.str "a")]) (s:=s1) rfl (by exact main "b" "a" (by decide +kernel)))
 ·exact Wp.of_eq (a:= .tup [.str "row",.str "home"]) (s:=s1) (by kernel_rfl) (Wp.of_eq (a:= .nx [.va (.raw (.ref am)),.va (.str "row"),.va (.str "home")]) (s:=s1) rfl (by exact main "row" "home" (by decide +kernel)))
 ·exact Wp.of_eq (a:= .tup [.str "lost",.str "x"]) (s:=s1) (by kernel_rfl) (Wp.of_eq (a:= .nx [.va (.raw (.ref am)),.va (.str "lost"),.va (.str "x")]) (s:=s1) rfl (by exact main "lost" "x" (by decide +kernel)))
structure RowsTo (roads:List (Int×Int)) (labels:List Str) (n j:Nat) (rows:List Rw):Prop where
 ok:∀r∈rows,RwOk roads labels r
 pw:rows.Pairwise fun r q=>dataLt (pK r.1) (pK q.1)=true
 le:rows.length≤n*(labels.length+1)+j
 key:∀r∈rows,∃m:Nat,r.1.1=(m:Int)∧r.1.2∈jt labels∧(m<n∨(m=n∧∃i,i<j∧(jt labels)[i]?=some r.1.2))
theorem RowsTo.next {roads:List (Int×Int)}{labels:List Str}{n:Nat}{rows:List Rw}(h:RowsTo roads labels n (labels.length+1) rows):RowsTo roads labels (n+1) 0 rows:=
 ⟨h.ok,h.pw,by have:=h.le;rw [Nat.add_mul];omega,fun r hr=>by
  obtain ⟨m,e,t,z⟩:=h.key r hr
  refine ⟨m,e,t,Or.inl ?_⟩
  rcases z with z | ⟨z,_⟩<;>omega⟩
theorem RowsTo.skip {roads:List (Int×Int)}{labels:List Str}{n j:Nat}{rows:List Rw}(h:RowsTo roads labels n j rows):RowsTo roads labels n (j+1) rows:=
 ⟨h.ok,h.pw,by have:=h.le;omega,fun r hr=>by
  obtain ⟨m,e,t,z⟩:=h.key r hr
  refine ⟨m,e,t,?_⟩
  rcases z with z | ⟨z,i,hi,ht⟩
  ·exact Or.inl z
  ·exact Or.inr ⟨z,i,by omega,ht⟩⟩
theorem RowsTo.add {roads:List (Int×Int)}{labels:List Str}{n j:Nat}{rows:List Rw}{t:Str}{gs:Gs}(hl:labels∈d9) (hr:roads.length≤10) (hn:n<roads.length) (ht:(jt labels)[j]?=some t) (hg:∀g',gs=some g'→1≤g'.length∧g'.length≤3∧∀g∈g',GrOk roads labels n g) (h:RowsTo roads labels n j rows) :
  RowsTo roads labels n (j+1) (rows++[(((n:Int),t),gs)]):=by
 have hm:t∈jt labels:=List.mem_of_getElem? ht
 have hj:j<5:=by
  have:=(List.getElem?_eq_some_iff.mp ht).1
  have l1:=(yx labels hl).2.1
  have l2:=(yx labels hl).1.2
  omega
 refine ⟨fun r hm'=> ?_,?_,by have:=h.le;simp;omega,fun r hm'=> ?_⟩
 ·rcases List.mem_append.mp hm' with z | z
  ·exact h.ok r z
  ·rw [List.mem_singleton.mp z]
   refine ⟨⟨n,rfl,hn,fun g' e=> ?_⟩,(Gj hm).2⟩
   obtain ⟨a,b,c⟩:=hg g' e
   exact ⟨a,b,fun g hg=>⟨(c g hg).l1,(c g hg).l3,(c g hg).nd,(c g hg).ch⟩⟩
 ·refine List.pairwise_append.mpr ⟨h.pw,by simp,fun r hr' q hq=> ?_⟩
  rw [List.mem_singleton.mp hq]
  obtain ⟨⟨a,u⟩,gs'⟩:=r
  obtain ⟨m,e,hu,z⟩:=h.key _ hr'
  have e:a=(m:Int):=e
  subst e
  rcases z with z | ⟨rfl,i,hi,hti⟩
  ·exact Xu m (by omega) n (by omega) z u (Gj hu).1 t (Gj hm).1
  ·exact ZC (by omega) hl (by omega) hj hi hti ht
 ·rcases List.mem_append.mp hm' with z | z
  ·obtain ⟨m,e,t',z⟩:=h.key r z
   refine ⟨m,e,t',?_⟩
   rcases z with z | ⟨z,i,hi,ht⟩
   ·exact Or.inl z
   ·exact Or.inr ⟨z,i,by omega,ht⟩
  ·rw [List.mem_singleton.mp z]
   exact ⟨n,rfl,hm,Or.inr ⟨rfl,j,by omega,ht⟩⟩
theorem ZJ {α:Type}{R:α→α→Prop}:∀{l:List α},l.Pairwise R→∀(i:Nat) (r q:α),l[i]?=some r→l[i+1]?=some q→R r q:=by
 intro l h i r q hr hq
 obtain ⟨hi,rfl⟩:=List.getElem?_eq_some_iff.mp hr
 obtain ⟨hi',rfl⟩:=List.getElem?_eq_some_iff.mp hq
 exact List.pairwise_iff_getElem.mp h i (i+1) hi hi' (by omega)
theorem abJ (k:Int×Str):dataLt (pK k) (pK k)=false:=by
 have h:=Jl.total (eK k) (eK k)
 have e:leS (eK k) (eK k) = !dataLt (pK k) (pK k):=rfl
 rw [e] at h
 simpa using h
theorem Yg {rows:List Rw}(h:rows.Pairwise fun r q=>dataLt (pK r.1) (pK q.1)=true):(rows.map (·.1)).Nodup:=
 List.Pairwise.map (S:=fun a b=>a≠b) (fun r:Rw=>r.1) (fun a b e z=>by rw [z,abJ] at e;cases e) h
abbrev nSl (am:Addr) (most:Int) (roads:List (Int×Int)) (rows:List Rw) (x4:Sl) (hh:Int) (labels:List Str) (l:List Sl):List Sl:= .va (.raw (.ref am)) :: .va (.int most) :: .va (.tup (roads.map eP)) :: .ow (rows.map eR)::x4 :: .va (.int hh) :: .va (eW labels)::l
theorem acZ {most:Int}{roads:List (Int×Int)}{labels:List Str}{rows:List Rw}{hh:Int}{n j:Nat}{t:Str}{x8:Sl}{s:DS}{Q:Fl→DS→Prop}(h:DOk am s) (hs:s.spot<600000000) (hr:roads.length≤10) (hn:n<roads.length) (hl:labels∈d9) (w0:0≤most) (w3:most≤3) (lr:rows.length≤1000) (ht:(jt labels)[j]?=some t) (hR:RowsTo roads labels n j rows)
  (k:∀rows' s',RowsTo roads labels n (j+1) rows'→DOk am s'→s'.spot≤s.spot+51→Q (.nx (nSl am most roads rows' (.va (.int (n:Int))) hh labels [.va (.str t),x8])) s') :
  Wp (uO (nSl am most roads rows (.va (.int (n:Int))) hh labels [.va (.str t),x8]) s) Q:=by
 obtain ⟨lab1,lab2,lab3,_⟩:=yx labels hl
 unfold uO vq
 refine Wp.ifS (Wp.bnd (Wp.m2 ?_))
 refine Wp.Ik (i:=0) (l:=7) rfl rfl h (by omega) (by omega) (by omega) fun r s1 r0 r1 k1 p1=> ?_
 refine Wp.of_eq (a:= .int 0) (s:=s1) rfl (Wp.of_eq (a:= .bl (decide (r>0))) (s:=s1) rfl (Wp.of_eq (a:=decide (r>0)) (s:=s1) rfl ⟨fun hb=> ?_,fun hb=> ?_⟩))
 ·refine Wp.app (ds:=rows.map eR) rfl (by rw [List.length_map];omega) ?_
  refine Wp.bnd (Wp.cons (Wp.of_eq (a:=eK ((n:Int),t)) (s:=s1) rfl (Wp.pD (Wp.bnd (Wp.of_eq (a:=[.raw (.ref am),.tup (roads.map eP),eW labels,.int (n:Int),.int most]) (s:=s1) rfl ?_)))))
  show Wp (j8 [.raw (.ref am),.tup (roads.map eP),eW labels,.int (n:Int),.int most] s1) _
  refine VB k1 (by omega) hr hn ⟨lab1.1,by omega⟩ lab3 w0 w3 fun g s2 hg k2 p2=> ?_
  refine Wp.of_eq (a:=eR (((n:Int),t),g)) (s:=s2) rfl ?_
  have:=k (rows++[(((n:Int),t),g)]) s2 (hR.add hl hr hn ht (fun g' z=>⟨(hg g' z).1.1,by have:=(hg g' z).1.2;omega,fun x hx=>((hg g' z).2 x hx).2⟩)) k2 (by omega)
  unfold nSl at this
  rw [List.map_append] at this
  exact this
 ·exact Wp.of_eq (a:= .nx (nSl am most roads rows (.va (.int (n:Int))) hh labels [.va (.str t),x8])) (s:=s1) rfl (k rows s1 hR.skip k1 (by omega))
theorem acE {most:Int}{s:DS}{Q:D→DS→Prop}(h:DOk am s) (hsp:s.spot<500000000) (w0:0≤most) (w3:most≤3)
  (k:∀(n:Net) s',NetOk n→2≤n.roads.length→n.roads.length≤5→n.labels∈d9→DOk am s'→s'.spot≤s.spot+2000→Q (eN n) s'):Wp (tQ [.raw (.ref am),.int most] s) Q:=by
 refine Wp.run ?_
 unfold Hu
 refine Wp.sq ?_
 unfold yU
 refine Wp.bnd (Wp.bnd (Wp.cons (Wp.m2 (Wp.of_eq (a:= .int 1) (s:=s) rfl ?_))))
 refine Wp.Ik (i:=0) (l:=3) rfl rfl h (by omega) (by omega) (by omega) fun hh s1 hh0 hh1 k1 p1=> ?_
 refine Wp.of_eq (a:= .int (1+hh)) (s:=s1) rfl (Wp.pD ?_)
 refine Wp.bnd (Wp.of_eq (a:=[.raw (.ref am)]) (s:=s1) rfl ?_)
 show Wp (fY [.raw (.ref am)] s1) _
 refine abI k1 (by omega) fun labels s2 hl k2 p2=> ?_
 refine Wp.of_eq (a:= .tup [.int (1+hh),eW labels]) (s:=s2) rfl ?_
 refine Wp.of_eq (a:= .nx [.va (.raw (.ref am)),.va (.int most),.un,.un,.un,.va (.int (1+hh)),.va (eW labels),.un,.un]) (s:=s2) rfl ?_
 show Wp (aR rZ _ [.va (.raw (.ref am)),.va (.int most),.un,.un,.un,.va (.int (1+hh)),.va (eW labels),.un,.un] s2) _
 obtain ⟨lab1,lab2,lab3,_⟩:=yx labels hl
 refine Wp.sq ?_
 unfold rZ
 refine Wp.bnd (Wp.bnd (Wp.pD (Wp.mL (Wp.qK (Wp.bnd (Wp.pD (Wp.m2 (Wp.of_eq (a:= .int 2) (s:=s2) rfl ?_))))))))
 refine Wp.Ik (i:=0) (l:=4) rfl rfl k2 (by omega) (by omega) (by omega) fun rr s3 rr0 rr1 k3 p3=> ?_
 refine Wp.of_eq (a:= .int (2+rr)) (s:=s3) rfl (Wp.of_eq (rN (by omega) (by omega)) ⟨by rw [gU];omega,?_⟩)
 refine Wp.lcE (fun i ys s'=>∃ps:List (Int×Int),ys=ps.map eP∧ps.length=i∧(∀p∈ps,(0≤p.1∧p.1≤7)∧0≤p.2∧p.2≤7)∧DOk am s'∧s'.spot≤s3.spot+2*i) ⟨[],rfl,rfl,by simp,k3,by omega⟩ (fun i d hd acc s' hI=> ?_) (fun ys s4 hlen hI=> ?_)
 ·obtain ⟨ps,rfl,lp,hp,k4,p4⟩:=hI
  obtain ⟨hi,rfl⟩:=mj hd
  refine ⟨_,rfl,true,s',rfl,fun _=> ?_,fun z=>(nomatch z)⟩
  refine Wp.bnd (Wp.cons (Wp.Ik (i:=0) (l:=1+hh) (by rfl) (by rfl) k4 (by omega) (by omega) (by omega) fun a s5 a0 a1 k5 p5=> ?_))
  refine Wp.pD (Wp.Ik (i:=0) (l:=1+hh) (by rfl) (by rfl) k5 (by omega) (by omega) (by omega) fun b s6 b0 b1 k6 p6=> ?_)
  refine Wp.of_eq (a:=eP (a,b)) (s:=s6) rfl ⟨ps++[(a,b)],by rw [List.map_append];rfl,by simp;omega,fun p hm=> ?_,k6,by omega⟩
  rcases List.mem_append.mp hm with z | z
  ·exact hp p z
  ·rw [List.mem_singleton.mp z]
   exact ⟨⟨a0,by show a≤7;omega⟩,b0,by show b≤7;omega⟩
 obtain ⟨roads,rfl,lp,hp,k4,p4⟩:=hI
 rw [gU] at lp p4
 have lr:roads.length≤5:=by omega
 refine Wp.of_eq (a:= .tup (roads.map eP)) (s:=s4) rfl (Wp.ok ?_)
 show Wp (aR yZ _ [.va (.raw (.ref am)),.va (.int most),.va (.tup (roads.map eP)),.un,.un,.va (.int (1+hh)),.va (eW labels),.un,.un] s4) _
 refine Wp.seq (Wp.of_eq (a:= .nx (nSl am most roads [] .un (1+hh) labels [.un,.un])) (s:=s4) (by kernel_rfl) ⟨_,rfl,?_⟩)
 refine Wp.sq ?_
 unfold zp
 have e:=rN (n:=(roads.length:Int)) (s:=s4) (by omega) (by omega)
 rw [Int.toNat_natCast] at e
 refine Wp.bnd (Wp.bnd (Wp.pD (Wp.of_eq (a:= .int (roads.length:Int)) (s:=s4) (ak (a:=[.tup (roads.map eP)]) (s':=s4) rfl (by rw [zG,List.length_map])) ?_)))
 refine Wp.of_eq e ?_
 refine Wp.lp (fun i sl s'=>∃(x4 x7 x8:Sl) (rows:List Rw),sl=nSl am most roads rows x4 (1+hh) labels [x7,x8]∧RowsTo roads labels i 0 rows∧DOk am s'∧s'.spot≤s4.spot+160*i)
  ⟨.un,.un,.un,[],rfl,⟨by simp,by simp,by simp,by simp⟩,k4,by omega⟩ (fun i d hd sl s' hI=> ?_) (fun sl s6 hI=> ?_)
 ·obtain ⟨x4,x7,x8,rows,rfl,hR,k6,p6⟩:=hI
  obtain ⟨hi,rfl⟩:=mj hd
  refine ⟨_,rfl,?_⟩
  unfold Bq vL
  refine Wp.bnd (Wp.of_eq (a:=(jt labels).map D.str) (s:=s') ?_ ?_)
  ·refine ak (a:= .lst ((jt labels).map D.str)) (s':=s') ?_ rfl
   refine ak (a:=(jt labels).map D.str) (s':=s') ?_ rfl
   refine ak (a:=[.tup (labels.map D.str++[.str ""])]) (s':=s') ?_ (M5 labels hl s')
   refine ak (a:= .tup (labels.map D.str++[.str ""])) (s':=s') ?_ rfl
   refine dR (x:=eW labels) (y:= .tup [.str ""]) (s1:=s') (s2:=s') rfl (by kernel_rfl) ?_
   show (if (labels.map D.str).length+1≤sizeLine then ret (D.tup (labels.map D.str++[.str ""])) else stk:M D) s'=_
   rw [if_pos (by rw [List.length_map,sizeLine_eq];omega)]
  refine Wp.lp (fun j sl s6=>∃(x7:Sl) (rows:List Rw),sl=nSl am most roads rows (.va (.int (i:Int))) (1+hh) labels [x7,x8]∧RowsTo roads labels i j rows∧DOk am s6∧s6.spot≤s'.spot+51*j)
   ⟨_,rows,rfl,hR,k6,by omega⟩ (fun j d hd sl s6 hJ=> ?_) (fun sl s6 hJ=> ?_)
  ·obtain ⟨x7,rows,rfl,hR,k7,p7⟩:=hJ
   rw [List.getElem?_map] at hd
   obtain ⟨t,ht,rfl⟩:=Option.map_eq_some_iff.mp hd
   have hj:j<labels.length+1:=by
    have:=(List.getElem?_eq_some_iff.mp ht).1
    omega
   have hle:rows.length≤100:=by
    have a:=hR.le
    have b:i*(labels.length+1)≤10*5:=Nat.mul_le_mul (by omega) (by omega)
    omega
   refine ⟨_,rfl,?_⟩
   exact acZ k7 (by omega) (by omega) hi hl w0 w3 (by omega) ht hR fun rows' s8 hR' k8 p8=>⟨_,rfl,_,rows',rfl,hR',k8,by omega⟩
  ·obtain ⟨x7,rows,rfl,hR,k7,p7⟩:=hJ
   rw [List.length_map,lab2] at hR p7
   exact ⟨_,rfl,_,_,_,rows,rfl,hR.next,k7,by omega⟩
 ·obtain ⟨x4,x7,x8,rows,rfl,hR,k6,p6⟩:=hI
  rw [gU] at hR p6
  show Wp (sY _ s6) _
  unfold sY
  refine Wp.rt (Wp.of_eq (a:=eN ⟨roads,labels,rows⟩) (s:=s6) (by kernel_rfl) (Wp.ok ?_))
  exact k ⟨roads,labels,rows⟩ s6 ⟨⟨by show 1≤roads.length;omega,by show roads.length≤10;omega,hp⟩,⟨lab1.1,by show labels.length≤4;omega,lab3,ac3 labels hl⟩,⟨by have:=hR.le;simpa using this,hR.ok⟩,ZJ hR.pw,Yg hR.pw⟩ (by show 2≤roads.length;omega) lr hl k6 (by omega)
end
end PV.Law
namespace PV
open PySem PySem.W PySem.Calls PyProof.Rows L2
structure NiceB (n k:Nat) (d:D):Prop where
 ex:∃p,d.pr=some p∧p.showable=true∧p.shown.length≤n∧p.depth≤k
theorem NiceB.mono {n k n' k':Nat}{d:D}(h:NiceB n k d) (hn:n≤n') (hk:k≤k'):NiceB n' k' d:=by
 obtain ⟨p,a,b,c,e⟩:=h.ex
 exact ⟨p,a,b,Nat.le_trans c hn,Nat.le_trans e hk⟩
theorem NiceB.of {n k:Nat}{d:D}{p:PyData}(h:d.pr=some p) (h2:(p.showable&&(decide (p.shown.length≤n)&&decide (p.depth≤k)))=true):NiceB n k d:=by
 simp only [Bool.and_eq_true,decide_eq_true_eq] at h2
 exact ⟨p,h,h2.1,h2.2.1,h2.2.2⟩
theorem Ie {n k:Nat}:∀{ds:List D},(∀d∈ds,NiceB n k d)→∃ps,D.zP ds=some ps∧PyData.showableAll ps=true∧((PyData.shownAll ps).map (·.length)).sum≤n*ds.length∧(PyData.shownAll ps).length=ds.length∧PyData.depthAll ps≤k
 | [],_=>⟨[],rfl,rfl,by simp [PyData.shownAll],rfl,by simp [PyData.depthAll]⟩
 | d::ds,h=>by
  obtain ⟨p,a,b,c,e⟩:=(h d List.mem_cons_self).ex
  obtain ⟨ps,a2,b2,c2,l2,e2⟩:=Ie fun x hx=>h x (List.mem_cons_of_mem _ hx)
  refine ⟨p::ps,?_,?_,?_,?_,?_⟩
  ·show (match D.pr d,D.zP ds with | some a,some r=>some (a::r) | _,_=>none)=_
   rw [a,a2]
  ·rw [PyData.showableAll,b,b2];rfl
  ·rw [PyData.shownAll]
   simp only [List.map_cons,List.sum_cons,List.length_cons]
   rw [Nat.mul_add]
   omega
  ·rw [PyData.shownAll]
   simp only [List.length_cons,l2]
  ·rw [PyData.depthAll]
   omega
theorem NiceB.lst {n k:Nat}{ds:List D}(h:∀d∈ds,NiceB n k d):NiceB (n*ds.length+2*ds.length+3) (k+1) (.lst ds):=by
 obtain ⟨ps,a,b,c,l,e⟩:=Ie h
 refine ⟨.list ps,?_,?_,?_,?_⟩
 ·show (D.zP ds).map PyData.list=_
  rw [a];rfl
 ·rw [PyData.showable];exact b
 ·rw [PyData.shown]
  have:=listText_len_le (PyData.shownAll ps)
  omega
 ·rw [PyData.depth]
  omega
theorem NiceB.tup {n k:Nat}{ds:List D}(h:∀d∈ds,NiceB n k d):NiceB (n*ds.length+2*ds.length+3) (k+1) (.tup ds):=by
 obtain ⟨ps,a,b,c,l,e⟩:=Ie h
 refine ⟨.tuple ps,?_,?_,?_,?_⟩
 ·show (D.zP ds).map PyData.tuple=_
  rw [a];rfl
 ·rw [PyData.showable];exact b
 ·rw [PyData.shown]
  have:=tupleText_len_le (PyData.shownAll ps)
  omega
 ·rw [PyData.depth]
  omega
theorem NiceB.ok {n k:Nat}{d:D}(h:NiceB n k d) (hn:n≤16777216) (hk:k≤64):∃p,d.pr=some p∧okR p=true:=by
 obtain ⟨p,a,b,c,e⟩:=h.ex
 refine ⟨p,a,?_⟩
 have h1:p.shown.length≤sizeLine:=by rw [sizeLine_eq];omega
 have h2:p.depth≤64:=by omega
 unfold okR
 simp [b,h1,h2]
theorem NiceB.int {i:Int}(h:i.natAbs<10^12):NiceB 13 0 (.int i):=by
 refine ⟨.int i,rfl,?_,PyData.shown_int_le h,by simp [PyData.depth]⟩
 have h2:i.natAbs<2^1920:=Nat.lt_of_lt_of_le h (by decide +kernel)
 have:=Nat.log2_lt (n:=i.natAbs) (k:=1920)
 simp only [PyData.showable,decide_eq_true_eq]
 by_cases hz:i.natAbs=0
 ·rw [hz];decide +kernel
 ·exact (this hz).mpr h2
end PV
namespace PV
open PySem PySem.W PySem.Calls PySem.Spec PyProof.Rows L2
theorem iy {a b:Str}(ha:pA a) (hb:pA b):pA (a++b):=by
 rw [rJ] at *
 intro c hc
 have:c∈TL.tl (a++b):=hc
 rw [TL.tl_append] at this
 rcases List.mem_append.mp this with z | z
 ·exact ha c z
 ·exact hb c z
theorem uH {a:Str}{ys:List Str}(ha:pA a) (h:∀y∈ys,pA y):pA (Txt.join a ys):=by
 rw [rJ]
 intro c hc
 have hc:c∈TL.tl (Txt.join a ys):=hc
 rw [yj] at hc
 rcases CK hc with z | ⟨l,hl,z⟩
 ·exact rJ.mp ha c z
 ·obtain ⟨y,hy,rfl⟩:=List.mem_map.mp hl
  exact rJ.mp (h y hy) c z
theorem Bl {i:Int}(h0:0≤i) (h1:i≤9):pA (jf i):=by
 have:i=0∨i=1∨i=2∨i=3∨i=4∨i=5∨i=6∨i=7∨i=8∨i=9:=by omega
 rcases this with rfl | rfl | rfl | rfl | rfl | rfl | rfl | rfl | rfl | rfl<;>decide +kernel
theorem wZ:pA " " :=by decide +kernel
theorem abz {c:Ch}(h:ChR c):pA (ZM c):=uH wZ fun x hx=>by
 rcases List.mem_cons.mp hx with rfl | hx
 ·exact Bl h.d.1 h.d.2
 ·exact sE (h.w x hx)
theorem acJ {g:List Ch}(h:∀c∈g,ChR c):pA (Tj g):=uH (by decide +kernel) fun x hx=>by
 obtain ⟨c,hc,rfl⟩:=List.mem_map.mp hx
 exact abz (h c hc)
theorem abQ {gs:List (List Ch)}(h:∀g∈gs,∀c∈g,ChR c):pA (Ym gs):=uH (by decide +kernel) fun x hx=>by
 obtain ⟨g,hg,rfl⟩:=List.mem_map.mp hx
 exact acJ (h g hg)
theorem Ys {r:Rw}(h:RwR r):pA (j5 r.1):=by
 have ht:pA (wL r.1.2):=by
  unfold wL
  split
  ·decide +kernel
  ·rename_i hz
   rcases h.t with z | z
   ·exact sE z
   ·exact absurd z hz
 unfold j5
 exact iy (iy (iy (iy (iy (by decide +kernel) (by decide +kernel)) wZ) (Bl h.d.1 h.d.2)) wZ) ht
theorem Zw {r:Rw}(h:RwR r):pA (uQ r):=by
 have hb:=Ys h
 obtain ⟨k,gs⟩:=r
 cases gs with
 | none=>exact iy (iy hb wZ) (by decide +kernel)
 | some gs=>exact iy (iy hb (by decide +kernel)) (abQ fun g hg c hc=>((h.g gs rfl).2 g hg).2 c hc)
theorem U6 {p:Int×Int}(h1:0≤p.1∧p.1≤9) (h2:0≤p.2∧p.2≤9):pA (jy p):=
 iy (iy (iy (iy (iy (by decide +kernel) (by decide +kernel)) wZ) (Bl h1.1 h1.2)) wZ) (Bl h2.1 h2.2)
theorem Zi {n:Net}(h:NetR n):pA (Ez n):=uH (by decide +kernel) fun y hy=>by
 unfold yP at hy
 rcases List.mem_append.mp hy with z | z
 ·rcases List.mem_cons.mp z with rfl | z
  ·refine uH wZ fun x hx=> ?_
   rcases List.mem_cons.mp hx with rfl | hx
   ·decide +kernel
   ·exact sE (h.lb x hx)
  ·obtain ⟨p,hp,rfl⟩:=List.mem_map.mp z
   exact U6 (h.rd p hp).1 (h.rd p hp).2
 ·obtain ⟨r,hr,rfl⟩:=List.mem_map.mp z
  exact Zw (h.rw r hr)
theorem O7 {n:Net}(h:NetL n):∀y∈yP n,y.length≤377:=fun y hy=>by
 unfold yP at hy
 rcases List.mem_append.mp hy with z | z
 ·rcases List.mem_cons.mp z with rfl | z
  ·have:=(join_le (a:= " ") (ys:=Ad::n.labels) (n:=5) (b:=8) (k:=1) (by have:=h.l4;simp;omega) (fun y hy=>by
    rcases List.mem_cons.mp hy with rfl | hy
    ·decide +kernel
    ·exact h.lbl y hy) (by decide +kernel)).1
   unfold w6 zX
   omega
  ·obtain ⟨p,hp,rfl⟩:=List.mem_map.mp z
   have:=Jm (h.rd p hp).1 (h.rd p hp).2
   omega
 ·obtain ⟨r,hr,rfl⟩:=List.mem_map.mp z
  exact Oj (h.rwl r hr)
theorem Xx {n:Net}(h:NetL n) (h5:n.roads.length≤5) (hr:n.rows.length≤15):(Ez n).length≤7938:=
 (join_le (a:= "\n") (ys:=yP n) (n:=21) (b:=377) (k:=1) (by unfold yP;simp;omega) (O7 h) (by decide +kernel)).1
theorem NiceB.ac5 {x:Str}(h:pA x):NiceB (15*x.length+13) 0 (.str x):=by
 refine ⟨.str x,rfl,rfl,?_,by simp [PyData.depth]⟩
 have:=PyData.shown_le 13 (by decide) (.str x) (PyData.leavesShort_of_canLay0 13 (.str x) h rfl)
 rw [PyData.weight] at this
 show _≤15*x.cps.size+13
 omega
theorem QH {n:Net}(hl:∀x∈n.labels,PyData.strOk x=true) (hr:∀r∈n.rows,Tt r):SeqAt.shaped (.tuple [.tuple (n.roads.map pP),pW n.labels,.tuple (n.rows.map pR)])=true∧(eN n).pd=some (.tuple [.tuple (n.roads.map pP),pW n.labels,.tuple (n.rows.map pR)]):=by
 obtain ⟨a,b⟩:=Kr n.roads
 obtain ⟨c,d⟩:=KY hr
 have e:=layAll_str n.labels hl
 have f:=gK n.labels
 refine ⟨?_,?_⟩
 ·unfold SeqAt.shaped pW
  rw [PyData.canLay0,PyData.canLayAll0,PyData.canLayAll0,PyData.canLayAll0,PyData.canLayAll0,PyData.canLay0,PyData.canLay0,PyData.canLay0,a,c,e,PyData.depth,PyData.depthAll,PyData.depthAll,PyData.depthAll,PyData.depthAll,PyData.depth,PyData.depth,PyData.depth,f]
  simp
  omega
 ·refine nA ?_
  have e1:D.pd (.tup (n.roads.map eP))=some (.tuple (n.roads.map pP)):=nA (fU _ _ (fun _=>rfl) n.roads)
  have e2:D.pd (.tup (n.rows.map eR))=some (.tuple (n.rows.map pR)):=nA (fU _ _ Zz n.rows)
  show (match D.pd (.tup (n.roads.map eP)),D.tM [eW n.labels,.tup (n.rows.map eR)] with | some a,some r=>some (a::r) | _,_=>none)=_
  rw [e1,Tq (aaF n.labels) e2]
theorem O8 {n:Net}(hl:∀x∈n.labels,PyData.strOk x=true) (hr:∀r∈n.rows,Tt r) (s:DS):Jx (eN n) (eN n) s = .ok (.bl false) s:=by
 obtain ⟨a,b⟩:=QH hl hr
 show K7 (eN n).pd (eN n).pd _ s=_
 rw [b]
 show (if SeqAt.shaped (.tuple [.tuple (n.roads.map pP),pW n.labels,.tuple (n.rows.map pR)])=true∧SeqAt.shaped (.tuple [.tuple (n.roads.map pP),pW n.labels,.tuple (n.rows.map pR)])=true then ret (D.bl (!PyData.eqv (.tuple [.tuple (n.roads.map pP),pW n.labels,.tuple (n.rows.map pR)]) (.tuple [.tuple (n.roads.map pP),pW n.labels,.tuple (n.rows.map pR)]))) else stk:M D) s=_
 rw [if_pos ⟨a,a⟩,PySem.SeqAt.eqv_refl _ (SeqAt.canLay_of_shaped a)]
 rfl
end PV
namespace PV.Law
open PySem PySem.W PySem.Calls PySem.Spec PyProof.Rows L2 PV
theorem Ri:∀l∈d9,∀x∈l,x.length≤8:=by decide +kernel
theorem Ls {n:Net}(h:NetOk n) (r5:n.roads.length≤5) (hl:n.labels∈d9):NetL n∧n.rows.length≤15:=by
 obtain ⟨lab1,lab2,lab3,lab4⟩:=yx n.labels hl
 have hlen:=Ri n.labels hl
 have rne:n.roads≠[]:=fun z=>by have:=h.rd.1;rw [z] at this;simp at this
 have n15:n.rows.length≤15:=by
  have a:=h.rw.1
  have b:n.roads.length*(n.labels.length+1)≤5*3:=Nat.mul_le_mul r5 (by omega)
  omega
 have hch:∀(m:Nat) (c:Ch),ChOk n.roads n.labels m c→ChL c:=fun m c hc=>by
  obtain ⟨o,p,q,e,h1,_⟩:=hc.road
  have ho:=(List.getElem?_eq_some_iff.mp h1).1
  exact ⟨⟨by omega,fun x hx=>lab4 x (hc.lab x hx)⟩,hc.len,fun x hx=>hlen x (hc.lab x hx)⟩
 have hrw:∀r∈n.rows,RwL r:=fun r hr=>by
  obtain ⟨m,e,hm,hg⟩:=(h.rw.2 r hr).key
  have ht:=(h.rw.2 r hr).top
  refine ⟨⟨by omega,?_,fun gs eg=> ?_⟩,?_,fun gs eg=> ?_⟩
  ·rcases ht with z | z
   ·exact Or.inl (lab4 _ z)
   ·exact Or.inr z
  ·obtain ⟨a,b,c⟩:=hg gs eg
   refine ⟨fun z=>by rw [z] at a;simp at a,fun x hx=> ?_⟩
   obtain ⟨c1,c2,c3,c4⟩:=c x hx
   exact ⟨fun z=>by rw [z] at c1;simp at c1,fun d hd=>(hch m d (c4 d hd)).toChR⟩
  ·rcases ht with z | z
   ·exact hlen _ z
   ·rw [z];decide +kernel
  ·obtain ⟨a,b,c⟩:=hg gs eg
   refine ⟨b,fun x hx=> ?_⟩
   obtain ⟨c1,c2,c3,c4⟩:=c x hx
   exact ⟨c2,fun d hd=>hch m d (c4 d hd)⟩
 refine ⟨⟨⟨rne,fun p hp=> ?_,fun z=>by have:=lab1.1;rw [z] at this;simp at this,lab4,fun r hr=>(hrw r hr).toRwR⟩,by omega,by omega,hlen,hrw,by omega⟩,n15⟩
 have:=h.rd.2.2 p hp
 omega
theorem ab3 {r:Rw}(h:RwR r):Tt r:=by
 refine ⟨?_,fun gs e g hg c hc x hx=>sE (((h.g gs e).2 g hg).2 c hc |>.w x hx)⟩
 rcases h.t with z | z
 ·exact sE z
 ·rw [z];decide +kernel
theorem Tp {n:Net}(h:NetOk n) (r5:n.roads.length≤5) (hl:n.labels∈d9) {σ:DS}(ob:vQ σ.objs.length σ.objs=true):mO [.str (Ez n)] σ = .ok (eN n) σ:=by
 obtain ⟨hN,n15⟩:=Ls h r5 hl
 have hlen:=Xx hN r5 n15
 obtain ⟨σ',w,hm⟩:=Qs (Zi hN.toNetR) (by omega) (fun y hy=>by
  rw [Vb hN.toNetR] at hy
  have:=O7 hN y hy
  omega) σ
 rw [aaE hN.toNetR] at hm
 dsimp only at hm
 rw [hm]
 have e:bnd (bY [eN n]) (fun d=>ret d) σ' = .ok (eN n) σ':=ak (Mp h σ') rfl
 rw [e]
 unfold zF
 dsimp only
 rw [Zt,w.take,if_pos ⟨abv _ _,ob⟩,w.back]
theorem text_of {n:Net}(h:NetOk n) (r5:n.roads.length≤5) (hl:n.labels∈d9) (s:DS):jT [eN n] s = .ok (.str (Ez n)) s:=Y5 (Ls h r5 hl).1 (Mp h s)
section
variable {call:List D→M D}{s s':DS}{d a b:D}
theorem aaU {mb:MS}{mc:Addr→Option Bool}{i j:Nat}{ls:List Sl}{f:Fl}(h:mb ls s = .ok f s'):Ql mb mc i j ls s = .ok f s':=by
 unfold Ql
 rw [h]
theorem YS {mb:MS}{mc:Addr→Option Bool}{i j:Nat}{ls:List Sl}{C:Addr}{fs:List (Str×D)}(h:mb ls s = .exc C fs s') (hc:mc C=some true):Ql mb mc i j ls s = .ok (.nx (((ls.set i .un).set j (.va (.exc C fs))).set i .un)) s':=by
 unfold Ql
 rw [h]
 dsimp only
 rw [hc]
theorem R5 (h:call [] s = .ok d s'):jr 5 0 bQ call [] s = .ok (.lst [d]) s':=by
 show bnd (bQ call [.cl,.un,.un,.un,.un]) endF s=_
 refine ak (a:=Fl.rt (.lst [d])) (s':=s') ?_ rfl
 unfold bQ
 rw [aJ (show qp call [.cl,.un,.un,.un,.un] s = .ok (.nx [.cl,.un,.un,.va (.lst []),.va .non]) s from rfl)]
 rw [aJ (show iK call [.cl,.un,.un,.va (.lst []),.va .non] s = .ok (.nx [.cl,.un,.un,.va (.lst [d]),.va .non]) s' from by
  unfold iK
  refine aaU ?_
  refine ak (a:= .lst [d]) (s':=s') ?_ rfl
  refine ak (a:=[d]) (s':=s') ?_ rfl
  refine ak (a:=[d]) (s':=s') ?_ (by rfl)
  exact ak (a:=d) (s':=s') h rfl)]
 rfl
theorem Hv {C:Addr}{fs:List (Str×D)}{r:D}(h:call [] s = .exc C fs s') (hc:Vx C=some true) (hr:∀s,bnd ((aR (wW call) (aR (wC call) (aR (yh call) (aR (xY call) (aR (wQ call) (aR (wu call) (aR (yg call) (aR (xW call) (aR (vX call) (aR (vI call) (aR (vW call) (vU call)))))))))))) [.cl,.un,.un,.va (.lst []),.va (.exc C fs)]) endF s = .ok r s) :
  jr 5 0 bQ call [] s = .ok r s':=by
 show bnd (bQ call [.cl,.un,.un,.un,.un]) endF s=_
 have e1:iK call [.cl,.un,.un,.va (.lst []),.va .non] s = .ok (.nx [.cl,.un,.un,.va (.lst []),.va (.exc C fs)]) s':=by
  unfold iK
  refine YS ?_ hc
  exact aC (aC (aC (aC h)))
 unfold bQ
 unfold bnd
 rw [aJ (show qp call [.cl,.un,.un,.un,.un] s = .ok (.nx [.cl,.un,.un,.va (.lst []),.va .non]) s from rfl),aJ e1]
 exact hr s'
theorem Jq (h:call [] s = .exc bF [("word",b),("line",a)] s'):jr 5 0 bQ call [] s = .ok (.tup [.str "line",a,b]) s':=Hv h (by decide +kernel) fun s=>by kernel_rfl
theorem Dy (h:call [] s = .exc bW [("value",a)] s'):jr 5 0 bQ call [] s = .ok (.tup [.str "parcel",a]) s':=Hv h (by decide +kernel) fun s=>by kernel_rfl
theorem Il (h:call [] s = .exc cX [("place",a)] s'):jr 5 0 bQ call [] s = .ok (.tup [.str "net",a]) s':=Hv h (by decide +kernel) fun s=>by kernel_rfl
end
theorem abE {d e:D}{p:PyData}(h1:d.pr=some p) (h2:e.pr=some p) (h3:okR p=true) (s:DS):iZ [d,e] s = .ok (.bl true) s:=by
 have e1:DW [d] s = .ok (.str p.shown) s:=by unfold DW;simp only [h1,h3,if_true]
 have e2:DW [e] s = .ok (.str p.shown) s:=by unfold DW;simp only [h2,h3,if_true]
 simp [iZ,CZ,xr,e1,e2]
theorem Ca {n k:Nat}{d:D}(h:NiceB n k d) (hn:n≤16777216) (hk:k≤64) (s:DS):iZ [d,d] s = .ok (.bl true) s:=by
 obtain ⟨p,a,b⟩:=h.ok hn hk
 exact abE a a b s
end PV.Law
namespace PV
open PySem PySem.W PySem.Calls PySem.Spec PyProof.Rows L2
theorem GP {α β:Type}(f:α→β) (l:List α) (lo hi:Option Int):fZ (l.map f) lo hi=(fZ l lo hi).map f:=by
 unfold fZ
 rw [List.length_map,List.map_take,List.map_drop]
theorem Fv {α:Type}(l:List α) (lo hi:Option Int):(∀x∈fZ l lo hi,x∈l)∧(fZ l lo hi).length≤l.length:=by
 unfold fZ
 refine ⟨fun x hx=>List.mem_of_mem_drop (List.mem_of_mem_take hx),?_⟩
 rw [List.length_take,List.length_drop]
 omega
def Oh (x:Str):Prop:=pA x∧x.length≤9
theorem Oa {ys:List Str}(h:∀y∈ys,Oh y) (hn:ys.length≤100):pA (Txt.join " " ys)∧(Txt.join " " ys).length≤1000∧(ys.map (·.length)).sum+ys.length*(" " : Str).length≤16777216:=by
 have:=join_le (a:= " ") (ys:=ys) (n:=100) (b:=9) (k:=1) hn (fun y hy=>(h y hy).2) (by decide +kernel)
 exact ⟨uH wZ fun y hy=>(h y hy).1,by omega,by omega⟩
def Vf:List Str:=["","5","9","10","-","a","zz","A","any","abcdefghi","x y"," ","b\n"]
theorem aaB:∀x∈Vf,Oh x:=by
 have:∀x∈Vf,PyData.strOk x=true∧x.length≤9:=by decide +kernel
 exact this
end PV
namespace PV.Law
open PySem PySem.W PySem.Calls PySem.Spec PyProof.Rows L2 PV
def V1 (d:D):Prop:=∀s:DS,kJ isT [d,.raw (.ty "str")] s = .ok (.bl false) s
def N6 (d:D):Prop:=(∃x:Str,d = .str x∧pA x∧x.length≤2900)∨V1 d
theorem VJ (k:Nat) (h:k≤100000):NiceB 100 1 (Ub k):=by
 have:=NiceB.tup (n:=13) (k:=0) (ds:=[.str "line",.int 0,.int (k:Int)]) fun d hd=>by
  simp only [List.mem_cons,List.not_mem_nil,or_false] at hd
  rcases hd with rfl | rfl | rfl
  ·exact NiceB.of (p:= .str "line") rfl (by decide +kernel)
  ·exact NiceB.int (by decide)
  ·exact NiceB.int (by show ((k:Nat):Int).natAbs<10^12;omega)
 exact this.mono (by simp) (by omega)
theorem ZX {c:Ch}(h0:0≤c.1) (h1:c.1≤1000) (hw:∀x∈c.2,pA x∧x.length≤9) (hl:c.2.length≤3000):NiceB 1000000 2 (eC c):=by
 have a:=NiceB.tup (n:=148) (k:=0) (ds:=c.2.map .str) fun d hd=>by
  obtain ⟨x,hx,rfl⟩:=List.mem_map.mp hd
  have:=(hw x hx).2
  exact (NiceB.ac5 (hw x hx).1).mono (by omega) (by omega)
 rw [List.length_map] at a
 have a:=a.mono (n':=450003) (k':=1) (by omega) (by omega)
 have:=NiceB.tup (n:=450003) (k:=1) (ds:=[.int c.1,eW c.2]) fun d hd=>by
  simp only [List.mem_cons,List.not_mem_nil,or_false] at hd
  rcases hd with rfl | rfl
  ·exact (NiceB.int (i:=c.1) (by omega)).mono (by omega) (by omega)
  ·exact a
 exact this.mono (by simp) (by omega)
theorem ZG {d:D}(h:NiceB 1000000 2 d):NiceB 1000005 3 (.lst [d]):=by
 have:=NiceB.lst (n:=1000000) (k:=2) (ds:=[d]) fun e he=>by rw [List.mem_singleton.mp he];exact h
 exact this.mono (by simp) (by omega)
theorem Mu {t:Str}{d:D}(ht:NiceB 13 0 (.str t)) (h:NiceB 1000000 2 d):NiceB 2000007 3 (.tup [.str t,d]):=by
 have:=NiceB.tup (n:=1000000) (k:=2) (ds:=[.str t,d]) fun e he=>by
  simp only [List.mem_cons,List.not_mem_nil,or_false] at he
  rcases he with rfl | rfl
  ·exact ht.mono (by omega) (by omega)
  ·exact h
 exact this.mono (by simp) (by omega)
theorem Ml {ws:List Str}{c:Ch}{r:List Str}(h:nR ws=(some c,r)):(0≤c.1∧c.1≤9)∧(∀x∈c.2,isW x=true)∧c.2.length≤ws.length:=by
 unfold nR at h
 cases ec:cC ws with
 | mk o1 r1=>
  rw [ec] at h
  cases o1 with
  | none=>cases h
  | some c1=>
   dsimp only at h
   cases eo:pOver r1 with
   | mk o2 r2=>
    rw [eo] at h
    cases o2 with
    | none=>cases h
    | some u=>
     cases h
     obtain ⟨a,b,d⟩:=Bx ec
     refine ⟨⟨a,?_⟩,b,d⟩
     unfold cC at ec
     cases ep:jW digs ws with
     | mk o r3=>
      rw [ep] at ec
      cases o with
      | none=>cases ec
      | some w=>cases ec;exact (Rg (yF ep)).2
section
variable {am:Addr}{N:Net}
theorem abg {d:D}(hd:V1 d) (s:DS):nD [eN N,d] s = .ok (.tup [.str "line",.non,.non]) s:=by
 show bnd (jU [.va (eN N),.va d,.un,.un,.un,.un,.un]) endF s=_
 refine ak (a:=Fl.rt (.tup [.str "line",.non,.non])) (s':=s) ?_ rfl
 unfold jU
 rw [xQ,show jx [.va (eN N),.va d,.un,.un,.un,.un,.un] s = .ok (.rt (.tup [.str "line",.non,.non])) s from by
  unfold jx
  exact ak (a:=true) (s':=s) (ak (a:=false) (s':=s) (ak (a:= .bl false) (s':=s) (ak (a:=[d,.raw (.ty "str")]) (s':=s) rfl (hd s)) rfl) rfl) (by kernel_rfl)]
theorem ZQ (h:NetOk N) {d:D}(hd:V1 d) (s:DS):fG [eN N,d] s = .exc bF [("word",.non),("line",.non)] s:=by
 have g:dG 3 bG [eN N,d] s = .exc bF [("word",.non),("line",.non)] s:=by
  show bnd (bG [.va (eN N),.va d,.un]) endF s=_
  refine aC ?_
  unfold bG
  rw [aJ (show iG [.va (eN N),.va d,.un] s = .ok (.nx [.va (eN N),.va d,.un]) s from ak (a:=eN N) (ak (a:=[eN N]) (s':=s) rfl (Mp h s)) rfl)]
  refine aC ?_
  unfold iD
  exact ak (a:=true) (s':=s) (ak (a:=false) (s':=s) (ak (a:= .bl false) (s':=s) (ak (a:=[d,.raw (.ty "str")]) (s':=s) rfl (hd s)) rfl) rfl) (by kernel_rfl)
 show zF s.objs.length (dG 3 bG [eN N,d] s)=_
 rw [g]
 rfl
theorem Ut (h:NetOk N) {d:D}(hd:N6 d) {call:List D→M D}(hc:∀s,call [] s=fG [eN N,d] s) {s:DS}(k:DOk am s) :
  ∃v s',jr 5 0 bQ call [] s = .ok v s'∧nD [eN N,d] s' = .ok v s'∧DOk am s'∧s'.spot=s.spot∧NiceB 2000007 3 v:=by
 rcases hd with ⟨x,rfl,hx,hl⟩ | hd
 ·have e:=hc s
  rw [Jc h hx hl k.ob] at e
  have hlen:(cI x).length≤2901:=by
   have h1:=(split_len (c:=32) (by decide) x).1
   unfold cI
   rw [Oc]
   omega
  unfold rpR at e
  have ed:∀s,nD [eN N,.str x] s = .ok (Zr N x) s:=ac4 h hx hl
  unfold Zr at ed
  cases ep:nR (cI x) with
  | mk o r=>
   rw [ep] at e ed
   cases o with
   | none=>
    refine ⟨_,_,Jq e,ed _,k.line x 0 r,rfl,(VJ _ (by omega)).mono (by omega) (by omega)⟩
   | some c=>
    obtain ⟨c0,cw,cl⟩:=Ml ep
    have nc:=ZX c0.1 (by omega) (fun y hy=>⟨sE (cw y hy),by
     have:=cw y hy
     unfold isW at this
     rw [Bool.and_eq_true,Bool.and_eq_true,decide_eq_true_iff,decide_eq_true_iff] at this
     omega⟩) (by omega:c.2.length≤3000)
    dsimp only at e ed
    by_cases hp:Rp N c=true
    ·rw [if_pos hp] at e
     refine ⟨_,_,R5 e,?_,k,rfl,(ZG nc).mono (by omega) (by omega)⟩
     rw [ed,if_pos hp]
    ·rw [if_neg hp] at e
     refine ⟨_,_,Dy e,?_,k.line x 0 r,rfl,Mu (NiceB.of (p:= .str "parcel") rfl (by decide +kernel)) nc⟩
     rw [ed,if_neg hp]
 ·have e:=hc s
  rw [ZQ h hd] at e
  exact ⟨_,_,Jq e,abg hd s,k,rfl,(NiceB.of (n:=100) (k:=1) (p:= .tuple [.str "line",.none,.none]) rfl (by decide +kernel)).mono (by omega) (by omega)⟩
theorem w_text (h:NetOk N) {d:D}(hd:N6 d) {x0 x1 x2 x4 x5 x6 x7 x8 x9 x10 x11 x12 x13:Sl}{s:DS}(k:DOk am s):∃s',FJ [x0,x1,x2,.va (eN N),x4,x5,x6,x7,x8,x9,x10,x11,x12,x13,.va d] s = .ok (.nx [x0,x1,x2,.va (eN N),x4,x5,x6,x7,x8,x9,x10,x11,x12,x13,.va d]) s'∧DOk am s'∧s'.spot=s.spot:=by
 obtain ⟨v,s',e1,e2,k',p',nv⟩:=Ut (am:=am) h hd (call:=lamD 0 (gJ [(3,"net"),(14,"text")] [x0,x1,x2,.va (eN N),x4,x5,x6,x7,x8,x9,x10,x11,x12,x13,.va d]) tO) (fun s=>by
  show tO [.va (eN N),.va d] s=_
  unfold tO
  exact ak (a:=[eN N,d]) (s':=s) rfl (call_of rfl)) k
 refine ⟨s',?_,k',p'⟩
 unfold FJ Dc
 refine ak (a:=false) (s':=s') (ak (a:=true) (s':=s') (ak (a:= .bl true) (s':=s') ?_ rfl) rfl) rfl
 refine ak (a:=[v,v]) (s':=s') ?_ (call_of (Ca nv (by omega) (by omega) s'))
 refine ak (a:=v) (s':=s') e1 ?_
 refine ak (a:=[v]) (s':=s') ?_ rfl
 refine ak (a:=v) (s':=s') ?_ rfl
 exact ak (a:=[eN N,d]) (s':=s') rfl (call_of e2)
theorem Xb {s:DS}{Q:D→DS→Prop}(k:DOk am s) (hs:s.spot<900000000) (h:NetOk N)
  (q:∀(c:Ch) s',(0≤c.1∧c.1≤9)→(∀x∈c.2,x∈N.labels)→c.2.length≤4→DOk am s'→s'.spot≤s.spot+10→Q (eC c) s'):Wp (lC [.raw (.ref am),eN N,.int 4] s) Q:=by
 refine Wp.run ?_
 unfold zA
 refine Wp.sq ?_
 unfold uo
 refine Wp.bnd (Wp.bnd (Wp.pD (Wp.mL (Wp.qK ?_))))
 refine Wp.bnd (Wp.pD ?_)
 refine Wp.Ik (i:=0) (l:=5) rfl rfl k (by omega) (by omega) (by omega) fun v s1 v0 v1 k1 p1=> ?_
 refine Wp.of_eq (rN v0 (by omega)) ⟨by rw [gU];omega,?_⟩
 have hl:=h.lb.1
 have hl4:=h.lb.2.1
 refine Wp.lcE (fun i ys s'=>∃w:List Str,ys=w.map D.str∧(∀x∈w,x∈N.labels)∧DOk am s'∧s'.spot≤s1.spot+i) ⟨[],rfl,by simp,k1,by simp⟩ (fun i d hd acc s' hI=> ?_) (fun ys s' hlen hI=> ?_)
 ·obtain ⟨w,rfl,hw,k2,p2⟩:=hI
  obtain ⟨hi,rfl⟩:=mj hd
  refine ⟨_,rfl,true,s',rfl,fun _=> ?_,fun z=>(nomatch z)⟩
  refine Wp.m2 (Wp.of_eq (a:=eW N.labels) (s:=s') rfl ?_)
  refine (Wp.Ik (i:=0) (l:=(N.labels.length:Int)) rfl ?_ k2 (by omega) (by omega) (by omega) fun r s2 r0 r2 k3 p3=> ?_)
  ·exact ak (a:=[eW N.labels]) (s':=s') rfl (by unfold eW;rw [zG,List.length_map])
  obtain ⟨x,hx,ex⟩:=yH (f:=D.str) r0 r2
  refine Wp.of_eq (a:= .str x) (s:=s2) ?_ ⟨w++[x],by simp,?_,k3,by omega⟩
  ·show oG (atI (N.labels.map D.str) r) s2=_
   rw [ex];rfl
  ·intro y hy
   rcases List.mem_append.mp hy with z | z
   ·exact hw y z
   ·rw [List.mem_singleton.mp z];exact hx
 ·obtain ⟨w,rfl,hw,k2,p2⟩:=hI
  rw [gU] at hlen p2
  rw [List.length_map] at hlen
  refine Wp.of_eq (a:=eW w) (s:=s') rfl (Wp.ok ?_)
  show Wp (mW [.va (.raw (.ref am)),.va (eN N),.va (.int 4),.va (eW w),.un] s') _
  unfold mW
  have hr:=h.rd.1
  have hr2:=h.rd.2.1
  refine Wp.rt (Wp.bnd (Wp.cons (Wp.Ik (i:=0) (l:=(N.roads.length:Int)) rfl ?_ k2 (by omega) (by omega) (by omega) fun r s2 r0 r2 k3 p3=> ?_)))
  ·exact ak (a:=[.tup (N.roads.map eP)]) (s':=s') rfl (by rw [zG,List.length_map])
  refine Wp.pD (Wp.of_eq (a:=eW w) (s:=s2) rfl (Wp.of_eq (a:=eC (r,w)) (s:=s2) rfl (Wp.ok ?_)))
  exact q (r,w) s2 ⟨r0,by show r≤9;omega⟩ hw (by show w.length≤4;omega) k3 (by omega)
end
section
variable {N:Net}
theorem Xq (h:NetOk N) {d:D}{s:DS}(hp:dN [eN N,d] s = .ok (.bl false) s):fD [eN N,d] s = .exc bW [("value",d)] s:=by
 have e:=Qi h hp
 rw [if_neg (by decide)] at e
 show bnd (iQ [.va (eN N),.va d]) endF s=_
 refine aC (aC ?_)
 unfold iH
 exact aC (ak (a:=[eN N,.tup [],d]) (s':=s) rfl (call_of e))
theorem Yx (h:NetOk N) (s:DS):fD [eN N,.tup [.int 0,.tup []]] s = .ok (.str "0") s:=by
 have hp:=RP h (c:=(0,[])) (by decide) (by simp) (by simp) s
 have hb:Rp N (0,[])=true:=by
  have:=h.rd.1
  unfold Rp Rv
  rw [decide_eq_true (by omega:(0:Int)<(N.roads.length:Int))]
  rfl
 rw [hb] at hp
 have e:=Qi h hp
 rw [if_pos rfl] at e
 show bnd (iQ [.va (eN N),.va (.tup [.int 0,.tup []])]) endF s=_
 refine ak (a:=Fl.rt (.str "0")) (s':=s) ?_ rfl
 unfold iQ
 rw [aJ (show iH [.va (eN N),.va (.tup [.int 0,.tup []])] s = .ok (.nx [.va (eN N),.va (.tup [.int 0,.tup []])]) s from ak (ak (a:=[eN N,.tup [],.tup [.int 0,.tup []]]) (s':=s) rfl (call_of e)) rfl)]
 generalize eN N=E
 kernel_rfl
def Mj:List D:=[.non,.int 5,.tup [],.tup [.int 0],.tup [.int 0,.tup []],.tup [.int 0,.lst [.str "a"]],.tup [.int 99,.tup []],.tup [.bl true,.tup []],.tup [.int 0,.tup [.str "zz"]],.str "0",.lst [.int 0,.tup []]]
theorem abH (h:NetOk N) (s:DS):dN [eN N,.tup [.int 0,.lst [.str "a"]]] s = .ok (.bl false) s:=by
 have hr:=h.rd.1
 have e2:=Ba 0 0 ((N.roads.length:Int)-1) s
 rw [show (decide ((0:Int)≤0)&&decide ((0:Int)≤(N.roads.length:Int)-1))=true by simp;omega] at e2
 have e5:(m2 uR (fun ls=>bnd ((ao (m2 dJ (au 0) (fun _=>ret (.int 0))) (fun _=>ret [])) ls) gj) (fun _=>ret (.int 1))) [.va (eN N),.va (.tup [.int 0,.lst [.str "a"]])] s = .ok (.int ((N.roads.length:Int)-1)) s:=by
  refine dR (x:= .int (N.roads.length:Int)) (y:= .int 1) (s1:=s) (s2:=s) ?_ rfl rfl
  exact ak (a:=[.tup (N.roads.map eP)]) (s':=s) rfl (by rw [zG,List.length_map])
 have t2:d7 (fun ls=>bnd ((fun ls=>bnd ((ao (m2 dJ (au 1) (fun _=>ret (.int 0))) (ao (fun _=>ret (.int 0)) (ao (m2 uR (fun ls=>bnd ((ao (m2 dJ (au 0) (fun _=>ret (.int 0))) (fun _=>ret [])) ls) gj) (fun _=>ret (.int 1))) (fun _=>ret [])))) ls) (aQ 3 (cY))) ls) cQ) [.va (eN N),.va (.tup [.int 0,.lst [.str "a"]])] s = .ok false s:=by
  refine ak (a:=true) (s':=s) ?_ rfl
  refine ak (a:= .bl true) (s':=s) ?_ rfl
  refine ak (a:=[.int 0,.int 0,.int ((N.roads.length:Int)-1)]) (s':=s) ?_ (call_of e2)
  refine ak (a:= .int 0) (s':=s) rfl ?_
  refine ak (a:=[.int 0,.int ((N.roads.length:Int)-1)]) (s':=s) ?_ rfl
  refine ak (a:= .int 0) (s':=s) rfl ?_
  refine ak (a:=[.int ((N.roads.length:Int)-1)]) (s':=s) ?_ rfl
  exact ak e5 rfl
 show bnd (fM [.va (eN N),.va (.tup [.int 0,.lst [.str "a"]])]) endF s=_
 refine ak (a:=Fl.rt (.bl false)) (s':=s) ?_ rfl
 unfold fM
 rw [aJ (show dY _ s = .ok (.nx [.va (eN N),.va (.tup [.int 0,.lst [.str "a"]])]) s from by
  unfold dY
  refine ak (a:=false) (s':=s) (ak (a:=false) (s':=s) ?_ t2) rfl
  refine ak (a:=true) (s':=s) (ak (a:= .bl true) (s':=s) (ak (a:=[.tup [.int 0,.lst [.str "a"]],.int 2,.int 2]) (s':=s) rfl (call_of (by kernel_rfl))) rfl) rfl)]
 unfold jM
 refine ak (a:= .bl false) (s':=s) ?_ rfl
 refine ak (a:=[eW N.labels,.lst [.str "a"],.int 3000]) (s':=s) rfl (call_of ?_)
 generalize eW N.labels=E
 kernel_rfl
theorem aaM:∀l∈d9,Rv l ["zz"]=false:=by decide +kernel
theorem Ud (h:NetOk N) (hl:N.labels∈d9) {d:D}(hd:d∈Mj):(d = .tup [.int 0,.tup []])∨((∀s,dN [eN N,d] s = .ok (.bl false) s)∧(∀s,Jx d (.tup [.int 0,.tup []]) s = .ok (.bl true) s)∧NiceB 1000000 2 d):=by
 have nz:∀{d:D}{p:PyData},d.pr=some p→(p.showable&&(decide (p.shown.length≤100)&&decide (p.depth≤2)))=true→NiceB 1000000 2 d:=fun h1 h2=>(NiceB.of (n:=100) (k:=2) h1 h2).mono (by omega) (by omega)
 simp only [Mj,List.mem_cons,List.not_mem_nil,or_false] at hd
 rcases hd with rfl | rfl | rfl | rfl | rfl | rfl | rfl | rfl | rfl | rfl | rfl
 ·exact .inr ⟨fun s=>by generalize eN N=E;kernel_rfl,fun s=>by kernel_rfl,nz (p:= .none) rfl (by decide +kernel)⟩
 ·exact .inr ⟨fun s=>by generalize eN N=E;kernel_rfl,fun s=>by kernel_rfl,nz (p:= .int 5) rfl (by decide +kernel)⟩
 ·exact .inr ⟨fun s=>by generalize eN N=E;kernel_rfl,fun s=>by kernel_rfl,nz (p:= .tuple []) rfl (by decide +kernel)⟩
 ·exact .inr ⟨fun s=>by generalize eN N=E;kernel_rfl,fun s=>by kernel_rfl,nz (p:= .tuple [.int 0]) rfl (by decide +kernel)⟩
 ·exact .inl rfl
 ·exact .inr ⟨fun s=>abH h s,fun s=>by kernel_rfl,nz (p:= .tuple [.int 0,.list [.str "a"]]) rfl (by decide +kernel)⟩
 ·refine .inr ⟨fun s=> ?_,fun s=>by kernel_rfl,nz (p:= .tuple [.int 99,.tuple []]) rfl (by decide +kernel)⟩
  have:=RP h (c:=(99,[])) (by decide) (by simp) (by simp) s
  rw [show Rp N (99,[])=false by
   have:=h.rd.2.1
   unfold Rp
   rw [decide_eq_false (by show ¬(99:Int)<(N.roads.length:Int);omega)]
   rfl] at this
  exact this
 ·exact .inr ⟨fun s=>by generalize eN N=E;kernel_rfl,fun s=>by kernel_rfl,nz (p:= .tuple [.bool true,.tuple []]) rfl (by decide +kernel)⟩
 ·refine .inr ⟨fun s=> ?_,fun s=>by kernel_rfl,nz (p:= .tuple [.int 0,.tuple [.str "zz"]]) rfl (by decide +kernel)⟩
  have:=RP h (c:=(0,["zz"])) (by decide) (by decide +kernel) (by simp) s
  rw [show Rp N (0,["zz"])=false by
   unfold Rp
   rw [aaM N.labels hl,Bool.and_false]] at this
  exact this
 ·exact .inr ⟨fun s=>by generalize eN N=E;kernel_rfl,fun s=>by kernel_rfl,nz (p:= .str "0") rfl (by decide +kernel)⟩
 ·exact .inr ⟨fun s=>by generalize eN N=E;kernel_rfl,fun s=>by kernel_rfl,nz (p:= .list [.int 0,.tuple []]) rfl (by decide +kernel)⟩
theorem abY (h:NetOk N) (hl:N.labels∈d9) {d:D}(hd:d∈Mj) {x0 x1 x2 x4 x6 x7 x8 x9 x10 x11 x12 x13 x14:Sl}(s:DS) {Q:Fl→DS→Prop}{m:MS}
  (q:∀y6,Wp (m [x0,x1,x2,.va (eN N),x4,.va d,y6,x7,x8,x9,x10,x11,x12,x13,x14] s) Q):Wp (aR iW (aR jZ m) [x0,x1,x2,.va (eN N),x4,.va d,x6,x7,x8,x9,x10,x11,x12,x13,x14] s) Q:=by
 have main:∀(v:D) (n:Nat),iW [x0,x1,x2,.va (eN N),x4,.va d,x6,x7,x8,x9,x10,x11,x12,x13,x14] s = .ok (.nx [x0,x1,x2,.va (eN N),x4,.va d,.va v,x7,x8,x9,x10,x11,x12,x13,x14]) s→NiceB n 3 v→n≤16777216 →
   (∀call:List D→M D,(call [] s=fD [eN N,d] s)→jr 5 0 bQ call [] s = .ok v s)→Wp (aR iW (aR jZ m) [x0,x1,x2,.va (eN N),x4,.va d,x6,x7,x8,x9,x10,x11,x12,x13,x14] s) Q:=fun v n e4 nv hn hsaid=>by
  rw [aJ e4]
  rw [aJ (show jZ [x0,x1,x2,.va (eN N),x4,.va d,.va v,x7,x8,x9,x10,x11,x12,x13,x14] s = .ok (.nx [x0,x1,x2,.va (eN N),x4,.va d,.va v,x7,x8,x9,x10,x11,x12,x13,x14]) s from by
   unfold jZ
   refine ak (a:=false) (s':=s) (ak (a:=true) (s':=s) (ak (a:= .bl true) (s':=s) ?_ rfl) rfl) rfl
   refine ak (a:=[v,v]) (s':=s) ?_ (call_of (Ca nv hn (by omega) s))
   refine ak (a:=v) (s':=s) ?_ rfl
   refine hsaid _ ?_
   show yJ [.va (eN N),.va d] s=_
   unfold yJ
   exact ak (a:=[eN N,d]) (s':=s) rfl (call_of rfl))]
  exact q _
 rcases Ud h hl hd with rfl | ⟨h1,h2,h3⟩
 ·refine main (.lst [.str "0"]) 100 ?_ ((NiceB.of (n:=100) (k:=1) (p:= .list [.str "0"]) rfl (by decide +kernel)).mono (by omega) (by omega)) (by omega) fun call hc=>R5 (hc.trans (Yx h s))
  unfold iW
  refine ak (a:= .lst [.str "0"]) (s':=s) ?_ rfl
  exact ak (a:=false) (s':=s) (by kernel_rfl) (by kernel_rfl)
 ·refine main (.tup [.str "parcel",d]) 2000007 ?_ (Mu (NiceB.of (p:= .str "parcel") rfl (by decide +kernel)) h3) (by omega) fun call hc=>Dy (hc.trans (Xq h (h1 s)))
  unfold iW
  refine ak (a:= .tup [.str "parcel",d]) (s':=s) ?_ rfl
  refine ak (a:=true) (s':=s) ?_ (by rfl)
  exact ak (dR (x:=d) (y:= .tup [.int 0,.tup []]) (s1:=s) (s2:=s) rfl (by kernel_rfl) (h2 s)) rfl
end
def UG (A B C:D):List D:=[.non,.tup [],.int 5,.tup [A,B],.lst [A,B,C],.tup [.tup [],B,C]]
section
variable {N:Net}
theorem T9 {x0 x1 x2 x4 x5 x6:Sl}{l:List Sl}(hl:∀x∈N.labels,PyData.strOk x=true) (hr:∀r∈N.rows,Tt r) {d:D}(hd:d∈UG (.tup (N.roads.map eP)) (eW N.labels) (.tup (N.rows.map eR))) :
  ∃pl,(∀s,bY [d] s = .exc cX [("place",pl)] s)∧NiceB 100 1 pl∧∀s,(Jf (fun ls=>bnd (m2 v7 (au 7) (fun ls=>bnd ((ao (fun ls=>bnd ((fun _=>ret []) ls) bK) (ao (m2 dJ (au 3) (fun _=>ret (.int 1))) (ao (m2 dJ (au 3) (fun _=>ret (.int 2))) (fun _=>ret [])))) ls) bK) ls) jR) (fun ls=>bnd ((ao (fun _=>ret (.str "roads")) (fun _=>ret [])) ls) bK) (fun ls=>bnd ((fun _=>ret []) ls) bK)) (x0::x1::x2 :: .va (eN N)::x4::x5::x6 :: .va d::l) s = .ok pl s:=by
 obtain ⟨a,b⟩:=Kr N.roads
 obtain ⟨c,e⟩:=KY hr
 have f:=layAll_str N.labels hl
 have g:=gK N.labels
 have eA:D.pd (.tup (N.roads.map eP))=some (.tuple (N.roads.map pP)):=nA (fU _ _ (fun _=>rfl) N.roads)
 have eC:D.pd (.tup (N.rows.map eR))=some (.tuple (N.rows.map pR)):=nA (fU _ _ Zz N.rows)
 have eB:=aaF N.labels
 have lp:D.pd (.tup [.tup [],eW N.labels,.tup (N.rows.map eR)])=some (.tuple [.tuple [],pW N.labels,.tuple (N.rows.map pR)]):=nA (by
  show (match D.pd (.tup []),D.tM [eW N.labels,.tup (N.rows.map eR)] with | some a,some r=>some (a::r) | _,_=>none)=_
  rw [Tq eB eC]
  rfl)
 have ls:SeqAt.shaped (.tuple [.tuple [],pW N.labels,.tuple (N.rows.map pR)])=true:=by
  unfold SeqAt.shaped pW
  rw [PyData.canLay0,PyData.canLayAll0,PyData.canLayAll0,PyData.canLayAll0,PyData.canLayAll0,PyData.canLay0,PyData.canLay0,PyData.canLay0,c,f,PyData.depth,PyData.depthAll,PyData.depthAll,PyData.depthAll,PyData.depthAll,PyData.depth,PyData.depth,PyData.depth,g]
  simp [PyData.canLayAll0,PyData.depthAll]
  omega
 have ev:∀s,(fun ls=>bnd ((ao (fun ls=>bnd ((fun _=>ret []) ls) bK) (ao (m2 dJ (au 3) (fun _=>ret (.int 1))) (ao (m2 dJ (au 3) (fun _=>ret (.int 2))) (fun _=>ret [])))) ls) bK) (x0::x1::x2 :: .va (eN N)::x4::x5::x6 :: .va d::l) s = .ok (.tup [.tup [],eW N.labels,.tup (N.rows.map eR)]) s:=fun s=>by kernel_rfl
 have go:∀(p:PyData) (bb:Bool) (pl:D),d.pd=some p→SeqAt.shaped p=true→PyData.eqv p (.tuple [.tuple [],pW N.labels,.tuple (N.rows.map pR)])=bb→pl=(if bb=true then .tup [.str "roads"] else .tup [])→scD d (.tup [.tup [],eW N.labels,.tup (N.rows.map eR)])=none →
   ∀s,(Jf (fun ls=>bnd (m2 v7 (au 7) (fun ls=>bnd ((ao (fun ls=>bnd ((fun _=>ret []) ls) bK) (ao (m2 dJ (au 3) (fun _=>ret (.int 1))) (ao (m2 dJ (au 3) (fun _=>ret (.int 2))) (fun _=>ret [])))) ls) bK) ls) jR) (fun ls=>bnd ((ao (fun _=>ret (.str "roads")) (fun _=>ret [])) ls) bK) (fun ls=>bnd ((fun _=>ret []) ls) bK)) (x0::x1::x2 :: .va (eN N)::x4::x5::x6 :: .va d::l) s = .ok pl s:=fun p bb pl ep sp hb hpl hsc s=>by
  have eq:v7 d (.tup [.tup [],eW N.labels,.tup (N.rows.map eR)]) s = .ok (.bl bb) s:=by
   unfold v7
   rw [hsc]
   dsimp only
   rw [ep,lp]
   show (if SeqAt.shaped p=true∧SeqAt.shaped (.tuple [.tuple [],pW N.labels,.tuple (N.rows.map pR)])=true then ret (D.bl (PyData.eqv p (.tuple [.tuple [],pW N.labels,.tuple (N.rows.map pR)]))) else stk:M D) s=_
   rw [if_pos ⟨sp,ls⟩,hb]
  refine ak (a:=bb) (s':=s) (ak (a:= .bl bb) (s':=s) (dR (x:=d) (y:= .tup [.tup [],eW N.labels,.tup (N.rows.map eR)]) (s1:=s) (s2:=s) rfl (ev s) eq) rfl) ?_
  subst hpl
  cases bb<;>kernel_rfl
 have n0:NiceB 100 1 (.tup []):=(NiceB.of (n:=100) (k:=1) (p:= .tuple []) rfl (by decide +kernel))
 simp only [UG,List.mem_cons,List.not_mem_nil,or_false] at hd
 rcases hd with rfl | rfl | rfl | rfl | rfl | rfl
 ·exact ⟨.tup [],fun s=>by kernel_rfl,n0,go .none false _ rfl (by decide +kernel) (by rfl) rfl rfl⟩
 ·exact ⟨.tup [],fun s=>by kernel_rfl,n0,go (.tuple []) false _ rfl (by decide +kernel) (by rfl) rfl rfl⟩
 ·exact ⟨.tup [],fun s=>by kernel_rfl,n0,go (.int 5) false _ rfl (by decide +kernel) (by rfl) rfl rfl⟩
 ·refine ⟨.tup [],fun s=>by generalize eW N.labels=B;generalize D.tup (N.roads.map eP)=A;kernel_rfl,n0,go (.tuple [.tuple (N.roads.map pP),pW N.labels]) false _ (nA (Tq eA eB)) ?_ ?_ rfl rfl⟩
  ·unfold SeqAt.shaped pW
   rw [PyData.canLay0,PyData.canLayAll0,PyData.canLayAll0,PyData.canLayAll0,PyData.canLay0,PyData.canLay0,a,f,PyData.depth,PyData.depthAll,PyData.depthAll,PyData.depthAll,PyData.depth,PyData.depth,g]
   simp
   omega
  ·rw [PyData.eqv,PyData.eqvAll,PyData.eqvAll,PyData.eqvAll]
   simp
 ·refine ⟨.tup [],fun s=>by generalize eW N.labels=B;generalize D.tup (N.roads.map eP)=A;generalize D.tup (N.rows.map eR)=C;kernel_rfl,n0,go (.list [.tuple (N.roads.map pP),pW N.labels,.tuple (N.rows.map pR)]) false _ ?_ ?_ rfl rfl rfl⟩
  ·show (D.tM [.tup (N.roads.map eP),eW N.labels,.tup (N.rows.map eR)]).map PyData.list=_
   have:D.tM [.tup (N.roads.map eP),eW N.labels,.tup (N.rows.map eR)]=some [.tuple (N.roads.map pP),pW N.labels,.tuple (N.rows.map pR)]:=by
    show (match D.pd (.tup (N.roads.map eP)),D.tM [eW N.labels,.tup (N.rows.map eR)] with | some a,some r=>some (a::r) | _,_=>none)=_
    rw [eA,Tq eB eC]
   rw [this]
   rfl
  ·unfold SeqAt.shaped pW
   rw [PyData.canLay0,PyData.canLayAll0,PyData.canLayAll0,PyData.canLayAll0,PyData.canLayAll0,PyData.canLay0,PyData.canLay0,PyData.canLay0,a,c,f,PyData.depth,PyData.depthAll,PyData.depthAll,PyData.depthAll,PyData.depthAll,PyData.depth,PyData.depth,PyData.depth,g]
   simp
   omega
 ·exact ⟨.tup [.str "roads"],fun s=>by generalize eW N.labels=B;generalize D.tup (N.rows.map eR)=C;kernel_rfl,NiceB.of (n:=100) (k:=1) (p:= .tuple [.str "roads"]) rfl (by decide +kernel),go (.tuple [.tuple [],pW N.labels,.tuple (N.rows.map pR)]) true _ lp ls (PySem.SeqAt.eqv_refl _ (SeqAt.canLay_of_shaped ls)) rfl rfl⟩
theorem WD {d pl:D}(h:∀s,bY [d] s = .exc cX [("place",pl)] s) (s:DS) :
  jT [d] s = .exc cX [("place",pl)] s∧fD [d,.non] s = .exc cX [("place",pl)] s∧fG [d,.non] s = .exc cX [("place",pl)] s:=by
 refine ⟨?_,?_,?_⟩
 ·show bnd (rC [.va d,.un,.un,.un,.un]) endF s=_
  refine aC (aC ?_)
  unfold qd
  exact aC (ak (a:=[d]) (s':=s) rfl (call_of (h s)))
 ·show bnd (iQ [.va d,.va .non]) endF s=_
  refine aC (aC ?_)
  unfold iH
  refine aC (ak (a:=[d,.tup [],.non]) (s':=s) rfl (call_of ?_))
  show bnd (rK [.va d,.va (.tup []),.va .non]) endF s=_
  refine aC (aC ?_)
  unfold iJ
  exact aC (aC (aC (ak (a:=[d]) (s':=s) rfl (call_of (h s)))))
 ·have g:dG 3 bG [d,.non] s = .exc cX [("place",pl)] s:=by
   show bnd (bG [.va d,.va .non,.un]) endF s=_
   refine aC (aC ?_)
   unfold iG
   exact aC (ak (a:=[d]) (s':=s) rfl (call_of (h s)))
  show zF s.objs.length (dG 3 bG [d,.non] s)=_
  rw [g]
  rfl
end
section
variable {am:Addr}{N:Net}
abbrev lw (x0:Sl) (am:Addr) (x2:Sl) (N:Net) (l:List Sl):List Sl:=x0 :: .va (.raw (.ref am))::x2 :: .va (eN N)::l
theorem CQ {me:bJ D}{ls:List Sl}{ys:List Str}{s:DS}{Q:D→DS→Prop}(e:me ls s = .ok (.lst (ys.map .str)) s) (h:∀y∈ys,Oh y) (hn:ys.length≤100) (q:Q (.str (Txt.join " " ys)) s):Wp (rE (fun _=>ret (.str " ")) me ls s) Q:=by
 refine Wp.of_eq (a:= .str (Txt.join " " ys)) (s:=s) ?_ q
 unfold rE
 refine ak (a:= .str " ") (s':=s) rfl ?_
 exact ak e (tL (Oa h hn).2.2)
theorem Qz {ys:List Str}(h:∀y∈ys,Oh y) (hn:ys.length≤100):N6 (.str (Txt.join " " ys)):=by
 obtain ⟨a,b,_⟩:=Oa h hn
 exact .inl ⟨_,rfl,a,by omega⟩
theorem Zf (h:NetOk N) (hl:N.labels∈d9) {x0 x2 x4 x5 x6 x7 x8 x9 x10 x11 x12 x13 x14:Sl}{s:DS}{Q:Fl→DS→Prop}(k:DOk am s) (hs:s.spot<900000000)
  (q:∀(y5 y8 y10 y11 y12 y13 y14:Sl) s',DOk am s'→s'.spot≤s.spot+20→Q (.nx (lw x0 am x2 N [x4,y5,x6,x7,y8,x9,y10,y11,y12,y13,y14])) s') :
  Wp (FW (lw x0 am x2 N [x4,x5,x6,x7,x8,x9,x10,x11,x12,x13,x14]) s) Q:=by
 obtain ⟨lab1,lab2,lab3,lab4⟩:=yx N.labels hl
 have hlab:∀x∈N.labels,Oh x:=fun x hx=>⟨lab3 x hx,by have:=Ri N.labels hl x hx;omega⟩
 unfold FW
 refine Wp.sq ?_
 unfold DP
 refine Wp.bnd (Wp.bnd (Wp.of_eq (a:=[.raw (.ref am),eN N,.int 4]) (s:=s) rfl ?_))
 show Wp (lC [.raw (.ref am),eN N,.int 4] s) _
 refine Xb k (by omega) h fun c s1 c0 cw cl k1 p1=>Wp.ok ?_
 show Wp (aR wN _ (lw x0 am x2 N [x4,x5,x6,x7,x8,x9,.va (eC c),x11,x12,x13,x14]) s1) _
 have hW:∀y∈gA c,Oh y:=fun y hy=>by
  rcases List.mem_cons.mp hy with rfl | hy
  ·exact ⟨Bl c0.1 c0.2,by rw [rQ c0.1 c0.2];omega⟩
  ·exact hlab y (cw y hy)
 have hn:(gA c).length≤5:=by unfold gA;simp;omega
 have hn0:(gA c).length=c.2.length+1:=by unfold gA;simp
 refine Wp.seq (Wp.of_eq (a:= .nx (lw x0 am x2 N [x4,x5,x6,x7,x8,x9,.va (eC c),.va (.lst ((gA c).map .str)),x12,x13,x14])) (s:=s1) ?_ ⟨_,rfl,?_⟩)
 ·unfold wN
  refine ak (a:= .lst ((gA c).map .str)) (s':=s1) ?_ rfl
  refine ak (a:=(gA c).map .str) (s':=s1) ?_ rfl
  refine ak (a:= .lst [.str (jf c.1)]) (s':=s1) ?_ ?_
  ·refine ak (a:=[.str (jf c.1)]) (s':=s1) ?_ rfl
   refine ak (a:=[.str (jf c.1)]) (s':=s1) ?_ (by rfl)
   exact ak (a:= .str (jf c.1)) (s':=s1) (ak (a:=[.int c.1]) (s':=s1) rfl (RW c0.1 c0.2 s1)) rfl
  ·refine ak (a:= .lst (c.2.map .str)) (s':=s1) rfl ?_
   show (if [D.str (jf c.1)].length+(c.2.map D.str).length≤sizeLine then ret ([D.str (jf c.1)]++c.2.map D.str) else stk:M (List D)) s1=_
   rw [if_pos (by rw [List.length_map,sizeLine_eq];simp;omega)]
   rfl
 refine Wp.sq ?_
 unfold Dz
 refine Wp.bnd ?_
 refine Wp.Ik (i:=1) (l:=((gA c).length:Int)+1) rfl ?_ k1 (by omega) (by omega) (by omega) fun pl s2 pl0 pl1 k2 p2=>Wp.ok ?_
 ·refine dR (x:= .int ((gA c).length:Int)) (y:= .int 1) (s1:=s1) (s2:=s1) ?_ rfl rfl
  exact ak (a:=[.lst ((gA c).map .str)]) (s':=s1) rfl (by rw [Qq,List.length_map])
 show Wp (aR xZ _ (lw x0 am x2 N [x4,x5,x6,x7,.va (.int pl),x9,.va (eC c),.va (.lst ((gA c).map .str)),x12,x13,x14]) s2) _
 refine Wp.sq ?_
 unfold xZ
 refine Wp.bnd (Wp.m2 (Wp.of_eq (a:= .lst (Vf.map .str)) (s:=s2) (by kernel_rfl) ?_))
 refine Wp.Ik (i:=1) (l:=13) rfl rfl k2 (by omega) (by omega) (by omega) fun r s3 r0 r1 k3 p3=> ?_
 obtain ⟨o,ho,eo⟩:=yH (f:=D.str) (xs:=Vf) r0 (by show r<((13:Nat):Int);omega)
 refine Wp.of_eq (a:= .str o) (s:=s3) (by show oG (atI (Vf.map D.str) r) s3=_;rw [eo];rfl) (Wp.ok ?_)
 show Wp (aR xO _ (lw x0 am x2 N [x4,.va (.str o),x6,x7,.va (.int pl),x9,.va (eC c),.va (.lst ((gA c).map .str)),x12,x13,x14]) s3) _
 refine Wp.sq ?_
 unfold xO
 obtain ⟨t1,t2⟩:=Fv (gA c) none (some pl)
 refine Wp.bnd (Wp.mL (Wp.bnd ?_))
 refine Wp.of_eq (a:= .lst ((fZ (gA c) none (some pl)++[o]).map .str)) (s:=s3) ?_ (Wp.bnd ?_)
 ·refine ak (a:=(fZ (gA c) none (some pl)++[o]).map .str) (s':=s3) ?_ rfl
  refine ak (a:= .lst ((fZ (gA c) none (some pl)).map .str)) (s':=s3) ?_ ?_
  ·refine ak (a:= .lst ((gA c).map .str)) (s':=s3) rfl ?_
   refine ak (a:=none) (s':=s3) rfl ?_
   refine ak (a:=some pl) (s':=s3) rfl ?_
   rw [Nq,GP]
  ·refine ak (a:= .lst [.str o]) (s':=s3) rfl ?_
   show (if ((fZ (gA c) none (some pl)).map D.str).length+[D.str o].length≤sizeLine then ret ((fZ (gA c) none (some pl)).map D.str++[D.str o]) else stk:M (List D)) s3=_
   rw [if_pos (by rw [List.length_map,sizeLine_eq];simp;omega),List.map_append]
   rfl
 unfold Pr
 refine Wp.bnd (Wp.of_eq (a:= .lst ((gA c).map .str)) (s:=s3) rfl (Wp.bnd (Wp.bnd (Wp.m2 (Wp.of_eq (a:= .int pl) (s:=s3) rfl ?_)))))
 refine Wp.Ik (i:=1) (l:=2) rfl rfl k3 (by omega) (by omega) (by omega) fun b s4 b0 b1 k4 p4=> ?_
 refine Wp.of_eq (a:= .int (pl+b)) (s:=s4) rfl (Wp.of_eq (a:=some (pl+b)) (s:=s4) rfl (Wp.bnd (Wp.of_eq (a:=none) (s:=s4) rfl ?_)))
 obtain ⟨u1,u2⟩:=Fv (gA c) (some (pl+b)) none
 refine Wp.of_eq (a:= .lst ((fZ (gA c) (some (pl+b)) none).map .str)) (s:=s4) (by rw [Nq,GP]) ?_
 have hB:∀y∈(fZ (gA c) none (some pl)++[o])++fZ (gA c) (some (pl+b)) none,Oh y:=fun y hy=>by
  rcases List.mem_append.mp hy with z | z
  ·rcases List.mem_append.mp z with z | z
   ·exact hW y (t1 y z)
   ·rw [List.mem_singleton.mp z];exact aaB o ho
  ·exact hW y (u1 y z)
 have hBn:((fZ (gA c) none (some pl)++[o])++fZ (gA c) (some (pl+b)) none).length≤100:=by simp;omega
 refine Wp.of_eq (a:=(((fZ (gA c) none (some pl)++[o])++fZ (gA c) (some (pl+b)) none)).map .str) (s:=s4) ?_ (Wp.ok ?_)
 ·show (if ((fZ (gA c) none (some pl)++[o]).map D.str).length+((fZ (gA c) (some (pl+b)) none).map D.str).length≤sizeLine then ret ((fZ (gA c) none (some pl)++[o]).map D.str++(fZ (gA c) (some (pl+b)) none).map D.str) else stk:M (List D)) s4=_
  rw [if_pos (by rw [List.length_map,List.length_map,sizeLine_eq];simp;omega),←List.map_append]
 generalize ((fZ (gA c) none (some pl)++[o])++fZ (gA c) (some (pl+b)) none)=bent at hB hBn
 show Wp (aR xg _ (lw x0 am x2 N [x4,.va (.str o),x6,x7,.va (.int pl),x9,.va (eC c),.va (.lst ((gA c).map .str)),.va (.lst (bent.map .str)),x13,x14]) s4) _
 refine Wp.sq ?_
 unfold xg
 obtain ⟨v1,v2⟩:=Fv (gA c) (some 1) none
 have hT:∀y∈fZ (gA c) (some 1) none,Oh y:=fun y hy=>hW y (v1 y hy)
 refine Wp.bnd (Wp.bnd (Wp.cons (CQ (ys:=gA c) rfl hW (by omega) ?_)))
 refine Wp.cons (CQ (ys:=bent) rfl hB hBn ?_)
 refine Wp.pD (CQ (ys:=fZ (gA c) (some 1) none) ?_ hT (by omega) ?_)
 ·refine ak (a:= .lst ((gA c).map .str)) (s':=s4) rfl ?_
  refine ak (a:=some 1) (s':=s4) rfl ?_
  refine ak (a:=none) (s':=s4) rfl ?_
  rw [Nq,GP]
 refine Wp.of_eq (a:=[.str (Txt.join " " (gA c)),.str (Txt.join " " bent),.str (Txt.join " " (fZ (gA c) (some 1) none))]) (s:=s4) rfl (Wp.ok ?_)
 have ok1:=Qz hW (by omega)
 have ok2:=Qz hB hBn
 have ok3:=Qz hT (by omega)
 generalize D.str (Txt.join " " (gA c))=d1 at ok1
 generalize D.str (Txt.join " " bent)=d2 at ok2
 generalize D.str (Txt.join " " (fZ (gA c) (some 1) none))=d3 at ok3
 show Wp (aR wY _ (lw x0 am x2 N [x4,.va (.str o),x6,x7,.va (.int pl),x9,.va (eC c),.va (.lst ((gA c).map .str)),.va (.lst (bent.map .str)),.ow [d1,d2,d3],x14]) s4) _
 refine Wp.sq ?_
 unfold wY
 refine Wp.app (ds:=[d1,d2,d3]) rfl (by simp) ?_
 refine Wp.m2 (Wp.of_eq (a:= .lst [.non,.int 5,.bl true,.tup [.str "0"],.lst [],eC c]) (s:=s4) (by generalize eC c=C;kernel_rfl) ?_)
 refine Wp.Ik (i:=1) (l:=6) rfl rfl k4 (by omega) (by omega) (by omega) fun t s5 r0 r1 k5 p5=> ?_
 obtain ⟨d4,e4,ok4⟩:∃d4,dJ (.lst [.non,.int 5,.bl true,.tup [.str "0"],.lst [],eC c]) (.int t) s5 = .ok d4 s5∧N6 d4:=by
  have:t=0∨t=1∨t=2∨t=3∨t=4∨t=5:=by omega
  rcases this with rfl | rfl | rfl | rfl | rfl | rfl
  ·exact ⟨_,rfl,.inr fun s=>by kernel_rfl⟩
  ·exact ⟨_,rfl,.inr fun s=>by kernel_rfl⟩
  ·exact ⟨_,rfl,.inr fun s=>by kernel_rfl⟩
  ·exact ⟨_,rfl,.inr fun s=>by kernel_rfl⟩
  ·exact ⟨_,rfl,.inr fun s=>by kernel_rfl⟩
  ·exact ⟨_,rfl,.inr fun s=>rfl⟩
 refine Wp.of_eq e4 ?_
 show Wp (wG (lw x0 am x2 N [x4,.va (.str o),x6,x7,.va (.int pl),x9,.va (eC c),.va (.lst ((gA c).map .str)),.va (.lst (bent.map .str)),.va (.lst [d1,d2,d3,d4]),x14]) s5) _
 unfold wG
 refine Wp.bnd (Wp.of_eq (a:=[d1,d2,d3,d4]) (s:=s5) rfl ?_)
 refine Wp.lp (fun i ls s'=>∃y14,ls=lw x0 am x2 N [x4,.va (.str o),x6,x7,.va (.int pl),x9,.va (eC c),.va (.lst ((gA c).map .str)),.va (.lst (bent.map .str)),.va (.lst [d1,d2,d3,d4]),y14]∧DOk am s'∧s'.spot=s5.spot) ⟨_,rfl,k5,rfl⟩ (fun i d hd ls s' hI=> ?_) (fun ls s' hI=> ?_)
 ·obtain ⟨y14,rfl,k6,p6⟩:=hI
  have hm:d∈[d1,d2,d3,d4]:=List.mem_of_getElem? hd
  have hok:N6 d:=by
   simp only [List.mem_cons,List.not_mem_nil,or_false] at hm
   rcases hm with rfl | rfl | rfl | rfl
   ·exact ok1
   ·exact ok2
   ·exact ok3
   ·exact ok4
  obtain ⟨s7,e7,k7,p7⟩:=w_text (am:=am) h hok (x0:=x0) (x1:= .va (.raw (.ref am))) (x2:=x2) (x4:=x4) (x5:= .va (.str o)) (x6:=x6) (x7:=x7) (x8:= .va (.int pl)) (x9:=x9) (x10:= .va (eC c)) (x11:= .va (.lst ((gA c).map .str))) (x12:= .va (.lst (bent.map .str))) (x13:= .va (.lst [d1,d2,d3,d4])) k6
  exact ⟨_,rfl,Wp.of_eq e7 ⟨_,rfl,_,rfl,k7,by omega⟩⟩
 ·obtain ⟨y14,rfl,k6,p6⟩:=hI
  exact q _ _ _ _ _ _ _ s' k6 (by omega)
theorem aaX {pl:D}(h:NiceB 100 1 pl):NiceB 10000 3 (.lst [.tup [.str "net",pl],.tup [.str "net",pl],.tup [.str "net",pl]]):=by
 have a:=NiceB.tup (n:=100) (k:=1) (ds:=[.str "net",pl]) fun e he=>by
  simp only [List.mem_cons,List.not_mem_nil,or_false] at he
  rcases he with rfl | rfl
  ·exact (NiceB.of (n:=13) (k:=0) (p:= .str "net") rfl (by decide +kernel)).mono (by omega) (by omega)
  ·exact h
 have:=NiceB.lst (n:=207) (k:=2) (ds:=[.tup [.str "net",pl],.tup [.str "net",pl],.tup [.str "net",pl]]) fun e he=>by
  simp only [List.mem_cons,List.not_mem_nil,or_false,or_self] at he
  rw [he]
  exact a.mono (by simp) (by omega)
 exact this.mono (by simp) (by omega)
theorem aaY {x0 x2 x3 x4 x5 x6 x7 x8 x9 x10 x11 x12 x13 x14:Sl}{s:DS}{Q:Fl→DS→Prop}(k:DOk am s) (hs:s.spot<100000000)
  (q:∀(ys:List Sl) s',ys.length=12→DOk am s'→s'.spot≤s.spot+3000→Q (.nx (x0 :: .va (.raw (.ref am))::x2::ys)) s') :
  Wp (Fx [x0,.va (.raw (.ref am)),x2,x3,x4,x5,x6,x7,x8,x9,x10,x11,x12,x13,x14] s) Q:=by
 unfold Fx
 refine Wp.sq ?_
 unfold CV
 refine Wp.bnd (Wp.bnd (Wp.of_eq (a:=[.raw (.ref am),.int 2]) (s:=s) rfl ?_))
 show Wp (tQ [.raw (.ref am),.int 2] s) _
 refine acE k (by omega) (by omega) (by omega) fun N s1 hN r2 r5 hl k1 p1=>Wp.ok ?_
 show Wp (aR v8 _ (lw x0 am x2 N [x4,x5,x6,x7,x8,x9,x10,x11,x12,x13,x14]) s1) _
 refine Wp.sq ?_
 unfold v8
 refine Wp.bnd (Wp.of_eq (a:=sV 0 4) (s:=s1) (by kernel_rfl) ?_)
 refine Wp.lp (fun i ls s'=>∃(y4 y5 y8 y10 y11 y12 y13 y14:Sl),ls=lw x0 am x2 N [y4,y5,x6,x7,y8,x9,y10,y11,y12,y13,y14]∧DOk am s'∧s'.spot≤s1.spot+20*i) ⟨_,_,_,_,_,_,_,_,rfl,k1,by omega⟩ (fun i d hd ls s' hI=> ?_) (fun ls s2 hI=> ?_)
 ·obtain ⟨y4,y5,y8,y10,y11,y12,y13,y14,rfl,k2,p2⟩:=hI
  obtain ⟨hi,rfl⟩:=mj hd
  refine ⟨_,rfl,?_⟩
  exact Zf hN hl k2 (by omega) fun z5 z8 z10 z11 z12 z13 z14 s3 k3 p3=>⟨_,rfl,_,_,_,_,_,_,_,_,rfl,k3,by omega⟩
 obtain ⟨y4,y5,y8,y10,y11,y12,y13,y14,rfl,k2,p2⟩:=hI
 rw [gU] at p2
 show Wp (aR DK _ (lw x0 am x2 N [y4,y5,x6,x7,y8,x9,y10,y11,y12,y13,y14]) s2) _
 refine Wp.seq (Wp.of_eq (a:= .nx (lw x0 am x2 N [y4,.va (.lst Mj),x6,x7,y8,x9,y10,y11,y12,y13,y14])) (s:=s2) (by
  refine ak (a:= .lst Mj) (s':=s2) ?_ rfl
  kernel_rfl) ⟨_,rfl,?_⟩)
 refine Wp.sq ?_
 unfold Du
 refine Wp.bnd (Wp.m2 (Wp.of_eq (a:= .lst Mj) (s:=s2) rfl ?_))
 refine Wp.Ik (i:=1) (l:=11) rfl rfl k2 (by omega) (by omega) (by omega) fun r s3 r0 r1 k3 p3=> ?_
 obtain ⟨d,hd,ed⟩:=yH (f:=fun d:D=>d) (xs:=Mj) r0 (by show r<((11:Nat):Int);omega)
 rw [List.map_id'] at ed
 refine Wp.of_eq (a:=d) (s:=s3) (by show oG (atI Mj r) s3=_;rw [ed];rfl) (Wp.ok ?_)
 show Wp (aR iW (aR jZ _) (lw x0 am x2 N [y4,.va d,x6,x7,y8,x9,y10,y11,y12,y13,y14]) s3) _
 have hR:∀r∈N.rows,Tt r:=fun r hr=>ab3 ((Ls hN r5 hl).1.rw r hr)
 have hS:∀x∈N.labels,PyData.strOk x=true:=hN.lb.2.2.1
 refine abY hN hl hd s3 fun y6=> ?_
 ·show Wp (aR xR _ [x0,.va (.raw (.ref am)),x2,.va (eN N),y4,.va d,y6,x7,y8,x9,y10,y11,y12,y13,y14] s3) _
  refine Wp.sq ?_
  unfold xR
  refine Wp.bnd (Wp.m2 (Wp.of_eq (a:= .lst (UG (.tup (N.roads.map eP)) (eW N.labels) (.tup (N.rows.map eR)))) (s:=s3) (by
   show _=Res.ok (D.lst (UG (.tup (N.roads.map eP)) (eW N.labels) (.tup (N.rows.map eR)))) s3
   unfold eN
   generalize eW N.labels=B
   generalize D.tup (N.roads.map eP)=A
   generalize D.tup (N.rows.map eR)=C
   kernel_rfl) ?_))
  refine Wp.Ik (i:=1) (l:=6) rfl rfl k3 (by omega) (by omega) (by omega) fun r s4 r0 r1 k4 p4=> ?_
  obtain ⟨b,hb,eb⟩:=yH (f:=fun d:D=>d) (xs:=UG (.tup (N.roads.map eP)) (eW N.labels) (.tup (N.rows.map eR))) r0 (by show r<((6:Nat):Int);omega)
  rw [List.map_id'] at eb
  refine Wp.of_eq (a:=b) (s:=s4) (by show oG (atI (UG (.tup (N.roads.map eP)) (eW N.labels) (.tup (N.rows.map eR))) r) s4=_;rw [eb];rfl) (Wp.ok ?_)
  show Wp (aR Df _ [x0,.va (.raw (.ref am)),x2,.va (eN N),y4,.va d,y6,.va b,y8,x9,y10,y11,y12,y13,y14] s4) _
  obtain ⟨pl,hpl,npl,epl⟩:=T9 (x0:=x0) (x1:= .va (.raw (.ref am))) (x2:=x2) (x4:=y4) (x5:= .va d) (x6:=y6) (l:=[y8,x9,y10,y11,y12,y13,y14]) hS hR hb
  obtain ⟨b1,b2,b3⟩:=WD hpl s4
  refine Wp.seq (Wp.of_eq (a:= .nx [x0,.va (.raw (.ref am)),x2,.va (eN N),y4,.va d,y6,.va b,.va pl,x9,y10,y11,y12,y13,y14]) (s:=s4) (ak (epl s4) rfl) ⟨_,rfl,?_⟩)
  refine Wp.seq (Wp.of_eq (a:= .nx [x0,.va (.raw (.ref am)),x2,.va (eN N),y4,.va d,y6,.va b,.va pl,.ow [.tup [.str "net",pl],.tup [.str "net",pl]],y10,y11,y12,y13,y14]) (s:=s4) ?_ ⟨_,rfl,?_⟩)
  ·unfold Ea
   refine ak (a:=[.tup [.str "net",pl],.tup [.str "net",pl]]) (s':=s4) ?_ rfl
   refine ak (a:=[.tup [.str "net",pl],.tup [.str "net",pl]]) (s':=s4) ?_ (by rfl)
   have c1:jr 5 0 bQ (lamD 0 (gJ [(7,"bad")] [x0,.va (.raw (.ref am)),x2,.va (eN N),y4,.va d,y6,.va b,.va pl,x9,y10,y11,y12,y13,y14]) uz) [] s4 = .ok (.tup [.str "net",pl]) s4:=Il (a:=pl) (by
    show uz [.va b] s4=_
    unfold uz
    exact ak (a:=[b]) (s':=s4) rfl (call_of b1))
   have c2:jr 5 0 bQ (vM 0 (gJ [(7,"bad")] [x0,.va (.raw (.ref am)),x2,.va (eN N),y4,.va d,y6,.va b,.va pl,x9,y10,y11,y12,y13,y14]) uh) [] s4 = .ok (.tup [.str "net",pl]) s4:=Il (a:=pl) (by
    show uh [.va (.int 0),.va b] s4=_
    unfold uh
    exact ak (a:=[b,.non]) (s':=s4) rfl (call_of b2))
   refine ak (a:= .tup [.str "net",pl]) (s':=s4) (ak (a:=([]:List D)) (s':=s4) rfl c1) ?_
   exact ak (a:=[.tup [.str "net",pl]]) (s':=s4) (ak (a:= .tup [.str "net",pl]) (s':=s4) (ak (a:=([]:List D)) (s':=s4) rfl c2) rfl) rfl
  refine Wp.seq (Wp.of_eq (a:= .nx [x0,.va (.raw (.ref am)),x2,.va (eN N),y4,.va d,y6,.va b,.va pl,.ow [.tup [.str "net",pl],.tup [.str "net",pl],.tup [.str "net",pl]],y10,y11,y12,y13,y14]) (s:=s4) ?_ ⟨_,rfl,?_⟩)
  ·unfold Dg
   have c3:jr 5 0 bQ (lamD 0 (gJ [(7,"bad")] [x0,.va (.raw (.ref am)),x2,.va (eN N),y4,.va d,y6,.va b,.va pl,.ow [.tup [.str "net",pl],.tup [.str "net",pl]],y10,y11,y12,y13,y14]) tX) [] s4 = .ok (.tup [.str "net",pl]) s4:=Il (a:=pl) (by
    show tX [.va b] s4=_
    unfold tX
    exact ak (a:=[b,.non]) (s':=s4) rfl (call_of b3))
   exact Hw (ds:=[.tup [.str "net",pl],.tup [.str "net",pl]]) (d:= .tup [.str "net",pl]) rfl (ak (a:=([]:List D)) (s':=s4) rfl c3) (by simp)
  show Wp (uP [x0,.va (.raw (.ref am)),x2,.va (eN N),y4,.va d,y6,.va b,.va pl,.va (.lst [.tup [.str "net",pl],.tup [.str "net",pl],.tup [.str "net",pl]]),y10,y11,y12,y13,y14] s4) _
  refine Wp.of_eq (a:= .nx [x0,.va (.raw (.ref am)),x2,.va (eN N),y4,.va d,y6,.va b,.va pl,.va (.lst [.tup [.str "net",pl],.tup [.str "net",pl],.tup [.str "net",pl]]),y10,y11,y12,y13,y14]) (s:=s4) ?_ (q _ s4 rfl k4 (by omega))
  unfold uP
  refine ak (a:=false) (s':=s4) ?_ rfl
  refine ak (a:=false) (s':=s4) ?_ ?_
  ·refine ak (a:=true) (s':=s4) (ak (a:= .bl true) (s':=s4) ?_ rfl) rfl
   refine ak (a:=[.lst [.tup [.str "net",pl],.tup [.str "net",pl],.tup [.str "net",pl]],.lst [.tup [.str "net",pl],.tup [.str "net",pl],.tup [.str "net",pl]]]) (s':=s4) ?_ (call_of (Ca (aaX npl) (by omega) (by omega) s4))
   generalize eN N=E
   kernel_rfl
  ·rw [if_neg (by decide)]
   refine ak (a:= .bl false) (s':=s4) ?_ rfl
   refine dR (x:=eN N) (y:=eN N) (s1:=s4) (s2:=s4) ?_ rfl (O8 hS hR s4)
   refine ak (a:=[.str (Ez N)]) (s':=s4) ?_ (call_of (Tp hN r5 hl k4.ob))
   refine ak (a:= .str (Ez N)) (s':=s4) ?_ rfl
   exact ak (a:=[eN N]) (s':=s4) rfl (call_of (text_of hN r5 hl s4))
theorem plain (am:Addr) (s:DS) (ns:List Int) (h:PV.DOk am s) (h3:s.spot=0) (h5:s.objs=[]) :
  ∃s',bnd (Im (.va (.scr ns) :: .va (.raw (.ref am))::List.replicate 13 .un)) endF s = .ok (.bl true) s':=by
 have W:Wp (bnd (Im (.va (.scr ns) :: .va (.raw (.ref am))::List.replicate 13 .un)) endF s) fun d _=>d = .bl true:=by
  refine Wp.bnd ?_
  unfold Im
  refine Wp.sq ?_
  unfold MK
  have e0:(fun ls=>bnd ((ao (m2 iT (fun _=>ret (.int 3)) (fun ls=>bnd ((ao (fun _=>ret (.int 5)) (ao (fun ls=>bnd ((ao (au 0) (fun _=>ret [])) ls) gj) (fun _=>ret []))) ls) RK)) (fun _=>ret [])) ls) oJ) (.va (.scr ns) :: .va (.raw (.ref am))::List.replicate 13 .un) s = .ok (sV 0 (3+min 5 ns.length)) s:=by
   refine Yt (x:=3+(if ((ns.length:Nat):Int)<5 then ((ns.length:Nat):Int) else 5)) ?_ (by split<;>omega) (by split<;>omega) (by split<;>omega)
   refine ak (a:= .int (3+(if ((ns.length:Nat):Int)<5 then ((ns.length:Nat):Int) else 5))) (s':=s) ?_ rfl
   refine dR (x:= .int 3) (y:= .int (if ((ns.length:Nat):Int)<5 then ((ns.length:Nat):Int) else 5)) (s1:=s) (s2:=s) rfl ?_ rfl
   exact ak (a:=[.int 5,.int (ns.length:Int)]) (s':=s) rfl rfl
  refine Wp.bnd (Wp.of_eq e0 ?_)
  refine Wp.lp (fun i ls s'=>DOk am s'∧s'.spot≤3000*i∧∃x2 ys,ys.length=12∧ls = .va (.scr ns) :: .va (.raw (.ref am))::x2::ys) ⟨⟨h,by rw [h5];rfl⟩,by omega,.un,List.replicate 12 .un,rfl,rfl⟩ (fun i d hd ls s' hI=> ?_) (fun ls s' hI=> ?_)
  ·obtain ⟨k1,p1,x2,ys,hy,rfl⟩:=hI
   obtain ⟨hi,rfl⟩:=mj hd
   match ys,hy with
   | [x3,x4,x5,x6,x7,x8,x9,x10,x11,x12,x13,x14],_=>
    refine ⟨_,rfl,?_⟩
    exact aaY k1 (by omega) fun ys s2 hy k2 p2=>⟨_,rfl,k2,by omega,_,ys,hy,rfl⟩
  ·obtain ⟨k1,p1,x2,ys,hy,rfl⟩:=hI
   exact Wp.of_eq (a:= .rt (.bl true)) (s:=s') rfl (Wp.of_eq (a:= .bl true) (s:=s') rfl rfl)
 obtain ⟨d,s',e,rfl⟩:=W
 exact ⟨s',e⟩
end
end PV.Law
open PySem PySem.W PySem.Calls PyProof.Rows
theorem PySem.Challenge.cw_labelroads_k83_texts_of_parcels_refused_holds : PySem.Challenge.rw_labelroads_k83_texts_of_parcels_refused.Holds := by
 w_on;o_law
 refine HandSHeadRun.head_any (r:=OpenLaw.row PySem.Challenge.rw_labelroads_k83_texts_of_parcels_refused) (q:=view (OpenLaw.row PySem.Challenge.rw_labelroads_k83_texts_of_parcels_refused).prog [77]) (H:=PV.Law.hk) (ob:=PV.Law.ob) (M:=26000) (loose:=((["NetError","BadNet","BadNumber","BadRoad","BadHead","BadFailed","BadParcel","BadChoices","BadLine","TooGreat","MOST_ROADS","MOST_HOUSES","MOST_LABELS","MOST_LETTERS","MOST_GROUPS","MOST_CHOICES","MOST_WORD","LETTERS","ANY","ALL","HOME","is_whole","is_among","is_tuple","is_word","is_road_pair","is_label","are_labels","is_key","is_choice"]:List PySem.Str)++(["is_group","is_row","need_items","need_net","need_failed","MOST_STACK","is_parcel_of","need_all","DIGITS","LABELS","ROAD","ROW","NO_LABEL","TO","OR","ELSE","choice_words","group_text","row_text","net_text","parcel_words","parcel_text","Line","groups_in","key_in","row_in","labels_in","read_net","parcel_in","read_parcel"]:List PySem.Str)++(["_law_mixed","_law_folded","_law_draw","_law_begun","_law_like","_law_label_menu","_law_choice","_law_groups","_law_net","_law_parcel","_law_said","_law_due"]:List PySem.Str))) (d:=HandSHeadRun.topDef (OpenLaw.row PySem.Challenge.rw_labelroads_k83_texts_of_parcels_refused).prog 77) (kwd:=[]) PV.Law.acQ
  (by kernel_rfl) (fun s=>by kernel_rfl) PV.Law.run (by kernel_rfl) (by kernel_rfl) (by kernel_rfl) (by rfl) (by first | assumption | decide +kernel) (by decide +kernel) ⟨rfl,rfl,rfl,rfl,rfl,by decide +kernel⟩ ?hw ?hc
 case hw=>w_witness2
 case hc=>
  refine PV.aaZ (l:=PySem.Challenge.rw_labelroads_k83_texts_of_parcels_refused) (n:=63) (k:=13) (x:= "script") rfl (by decide) (by kernel_rfl) ⟨rfl,by decide,by decide⟩ ?F (fun w H s e s' z=>by obtain ⟨a,b,c,d,f,g1,g2,g3,g4,g5,g6,g7,z⟩:=z;exact z)
  intro w mg fa h Y G hmg0
  obtain ⟨K,KX,c⟩:=Y
  have hmg:mg ("law" : PySem.Str)=some (.ref fa):=by
   have e:(HandSHeadRun.topDef (OpenLaw.row PySem.Challenge.rw_labelroads_k83_texts_of_parcels_refused).prog 77).name=("law" : PySem.Str):=by kernel_rfl
   rw [←e]
   exact hmg0
  obtain ⟨fd,hb,hF⟩:=PV.Law.facts (w:=w) KX G hmg c
  refine ⟨K,fd,PV.Ra K (PV.Law.TB K) 13 PV.Law.Im,PV.Law.tf.map (He.cT K),KX,fun p hp=> ?_,fun p hp=> ?_,fun p hp=> ?_,hb,fun H a ns hl hO hH hS=>⟨a,ns,rfl,hS,by omega,fun xs=>hO a xs,PV.Law.ac0 hH,fun am s h1 h2 h3 h4 h5=>PV.Law.plain am s ns (PV.T5 h1 h2 h3 h4 (by omega)) h3 h5,fun _=>rfl⟩,hF⟩
  ·obtain ⟨t,ht,rfl⟩:=List.mem_map.mp hp
   exact (c.tabs t ht).mt
  ·obtain ⟨t,ht,rfl⟩:=List.mem_map.mp hp
   exact (c.tabs t ht).nk
  ·obtain ⟨t,ht,rfl⟩:=List.mem_map.mp hp
   exact (c.tabs t ht).cd
