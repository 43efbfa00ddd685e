import PyProof.Rows.All
import HandS.ForMost
import HandS.TupSets
import HandS.Exc
import HandS.ExcInit
import HandS.TryOnly
import HandS.WordsExc
import HandS.Flow
import HandS.IsInst
import HandS.Wide
import HandS.Deep
import KE.KeyNested
import HandS.TupAny
import PyProof.ReprRoads
import HandS.CallSlots
import HandS.Style
import KE.KDictWalk
import HandS.Strs
import KE.KDictKeyed
import KE.KDictCopyH
import KE.KDictOf
import KE.KDictList
import PyProof.DictTruth
import HandS.ExcField
import HandS.ExcIs
import KE.KExcIs
import OpenK.KCls
import HandS.Defaults
import HandS.MakeKwOnly
import HandS.Property
import KE.SortData
import KE.KDictSum
import HandS.Star
import HandS.DictEq
import PyProof.InstNe
import HandS.DictComp
import HandS.SetBool
import HandS.Sort
import HandS.TupMul
import HandS.TupLe
import HandS.More
import HandS.Set
import HandS.SetFor
import PyProof.Transfer
import HandS.DictTup
import KE.KItemsList
import HandS.ListEq
import KE.DataEq
import PyProof.SumWalkG
import PyProof.Rows.SeqMore
import PyProof.WalkInts
import PyProof.FactsAll.subtypes_4
import PyProof.Draws
import PyProof.EnumMake
import HandS.Zip0
import HandS.HotCalls
import OpenK.KOps
import HandS.Codes
import HandS.ExcValue
import PySem.Challenge.RW_plancalls_k10_errors_kept
set_option Elab.async false
set_option linter.all false
set_option maxRecDepth 100000
set_option maxHeartbeats 4000000
namespace L2.Dn
open PySem PySem.Spec PyProof.Rows L2
/-- where a cell lies: in the global store,or in the def's own -/
inductive Ix where
 | g (i:Nat)
 | l (i:Nat)
 deriving DecidableEq
inductive D where
 | p (d:PyData)
 | cell (i:Ix)
 | tup (xs:List D)
 | lst (xs:List D)
 /-- a frozen dict,an item at least no plain datum -/
 | dct (ks:List PyData) (xs:List D)
 /-- a frozen instance of a class of the module -/
 | obj (C:Str) (ns:List Str) (xs:List D)
 /-- the exception that is being handled -/
 | exn (C:Str) (ns:List Str) (xs:List D)
 /-- an exception of an own class as a value,not raised -/
 | exv (C:Str) (ns:List Str) (xs:List D)
 /-- a def or a class of the module -/
 | fn (x:Str)
 | ty (n:String)
 /-- something at an address of which nothing is known -/
 | opq
 /-- a frozen set of tuples -/
 | st (ps:List PyData)
inductive Cell where
 | lst (xs:List D)
 | dct (kvs:List (PyData×D))
 | ins (C:Str) (fs:List (Str×D))
 | gone
structure Two (α:Type) where
 g:List α
 l:List α
def Two.at_ {α:Type} (t:Two α):Ix→Option α
 | .g i=>t.g[i]?
 | .l i=>t.l[i]?
def Two.set {α:Type} (t:Two α) (x:α):Ix→Two α
 | .g i=>⟨t.g.set i x,t.l⟩
 | .l i=>⟨t.g,t.l.set i x⟩
/-- one more at the end of one of both -/
def Two.push {α:Type} (t:Two α) (x:α) (loc:Bool):Two α:=if loc then ⟨t.g,t.l++[x]⟩ else ⟨t.g++[x],t.l⟩
def Two.next {α:Type} (t:Two α) (loc:Bool):Ix:=if loc then .l t.l.length else .g t.g.length
abbrev Store:=Two Cell
abbrev Anc:=Two Addr
structure Exn where
 cls:Str
 fs:List (Str×D)
inductive Res (α:Type) where
 | ok (a:α) (m:Store)
 | exc (x:Exn) (m:Store)
 | stuck
def Res.bind {α β:Type}:Res α→(α→Store→Res β)→Res β
 | .ok a m,k=>k a m
 | .exc x m,_ => .exc x m
 | .stuck,_ => .stuck
abbrev Rho:=List (Option D)
abbrev FE:=Rho→Store→Res D
/-- what stands written,the world (hashes of texts),the module's names -/
structure KW where
 K:PySem.W.Frag
 w:World
 mg:Str→Option Value
 hd:Option (Addr×Obj)
instance:Coe KW PySem.W.Frag:=⟨KW.K⟩
/-- the same where nothing is being handled -/
abbrev KW.cold (K:KW):KW:=⟨K.K,K.w,K.mg,none⟩
abbrev _root_.L2.Cx.kw (X:Cx):KW:=⟨X.K,X.w,X.mg,if X.calm then none else X.pn.head?⟩
/-- a list that is never changed any more -/
def FzL (K:PySem.W.Frag) (H:Hp) (a:Addr) (xs:List V):Prop:=(∃o,H a=some (.frz o (.lst xs))) ∨
 ∃(its:Array Value) (n:Nat),K.lookup a=some { cls := .type "list",data := .seq its n }∧its.size≤sizeLine∧Vals xs its.toList
/-- a list that may be read -/
def RdL (K:PySem.W.Frag) (H:Hp) (a:Addr) (xs:List V):Prop:=H a=some (.lst xs)∨FzL K H a xs
theorem FzL.rd {K:PySem.W.Frag} {H:Hp} {a:Addr} {xs:List V} (h:FzL K H a xs):RdL K H a xs := .inr h
theorem FzL.sq {K:PySem.W.Frag} {H:Hp} {a:Addr} {xs:List V} (h:FzL K H a xs):SqL K H a xs:=by
 rcases h with h | ⟨its,n,hk,hz,hv⟩
 ·exact .inl (.inr h)
 ·exact .inr ⟨_,its,n,hk,rfl,rfl,rfl,hz,hv⟩
theorem RdL.sq {K:PySem.W.Frag} {H:Hp} {a:Addr} {xs:List V} (h:RdL K H a xs):SqL K H a xs:=h.elim (fun h => .inl (.inl h)) FzL.sq
theorem RdL.obj {X:Cx} {pins:List (Addr×Obj)} {σ:St} {H:Hp} {s:Shared} {a:Addr} {xs:List V} (I:Inv X pins σ H s) (h:RdL X.K H a xs) :
  xs.length≤sizeLine∧∃(its:List Value) (n:Nat),Vals xs its∧s.heap.get? a=some { cls := .type "list",data := .seq its.toArray n }:=by
 rcases h with h | ⟨o,h⟩ | ⟨its,n,hk,hz,hv⟩
 ·exact I.hok a _ h
 ·exact (I.hok a _ h).2
 ·refine ⟨by rw [hv.length];simpa using hz,its.toList,n,hv,?_⟩
  rw [I.kIn a _ hk]
/-- what may change -/
def JK:HO→Bool
 | .tup _=>false
 | .frz _ _=>false
 | .xd _=>false
 | .own _=>false
 | _=>true
/-- what stays: tuples,what is frozen,the dicts of exceptions and of instances -/
def Ext (H H':Hp):Prop:=∀b u,JK u=false→H b=some u→H' b=some u
theorem Ext.refl (H:Hp):Ext H H:=fun _ _ _ h=>h
theorem Ext.trans {H H1 H2:Hp} (a:Ext H H1) (b:Ext H1 H2):Ext H H2:=fun _ _ l h=>b _ _ l (a _ _ l h)
theorem Ext.new {H:Hp} {a:Addr} {o:HO} (h:H a=none):Ext H (upd H a o):=fun b u _ e=>by rw [upd_ne (ne_of_none e h)];exact e
theorem Ext.qv8 {H:Hp} {a:Addr} {o u:HO} (h:H a=some u) (l:JK u=true):Ext H (upd H a o):=fun b x lx e=>by
 rw [upd_ne (ne_of e h (by intro z;rw [z,l] at lx;cases lx))];exact e
theorem Ext.put {H:Hp} {a:Addr} {o:HO} {xs:List V} (h:H a=some (.lst xs)):Ext H (upd H a o):=Ext.qv8 h rfl
theorem FzL.ext {K:PySem.W.Frag} {H H':Hp} {a:Addr} {xs:List V} (h:FzL K H a xs) (e:Ext H H'):FzL K H' a xs:=by
 rcases h with ⟨o,h⟩ | h
 ·exact .inl ⟨o,e _ _ rfl h⟩
 ·exact .inr h
theorem SqT.ext {K:PySem.W.Frag} {H H':Hp} {a:Addr} {xs:List V} (h:SqT K H a xs) (e:Ext H H'):SqT K H' a xs:=by
 rcases h with (h | ⟨o,h⟩) | h
 ·exact .inl (.inl (e _ _ rfl h))
 ·exact .inl (.inr ⟨o,e _ _ rfl h⟩)
 ·exact .inr h
/-- a key,up to == -/
def nk:PyData→Option NestedKey
 | .none=>some .none
 | .bool b=>some (.num (if b then 1 else 0))
 | .int i=>some (.num i)
 | .str x=>some (.text x)
 | .tuple ds=>(nks ds).map .tup
 | _=>none
where nks:List PyData→Option (List NestedKey)
 | []=>some []
 | d::ds=>match nk d,nks ds with
  | some k,some ks=>some (k::ks)
  | _,_=>none
/-- a dict: its entries by their own object alone -/
def gdO (w:World) (a:Addr) (es:List (NestedKey×V×V)):HO := .ext fun h=>∃(o:Obj) (ens:Array DictEntry) (ep:Nat),(a == sysModules)=false∧h.get? a=some o∧o.ExactDict∧o.data = .dict ens ep∧Paired (fun (e:NestedKey×V×V) (x:DictEntry)=>x.hash=e.1.hash w∧RelV e.2.1 x.key∧RelV e.2.2 x.val) es ens.toList
def Vm:Key→PyData
 | .inl i => .int i
 | .inr x => .str x
mutual
/-- frozen data -/
inductive DpZ (K:KW) (H:Hp):V→PyData→Prop
 | non:DpZ K H .non .none
 | bl (b:Bool):DpZ K H (.bl b) (.bool b)
 | int (i:Int):DpZ K H (.int i) (.int i)
 | str (x:Str):DpZ K H (.str x) (.str x)
 | lst {a:Addr} {xs:List V} {ds:List PyData}:FzL K H a xs→RP K H xs ds→DpZ K H (.ref a) (.list ds)
 | tup {a:Addr} {xs:List V} {ds:List PyData}:SqT K H a xs→RP K H xs ds→DpZ K H (.ref a) (.tuple ds)
 | dG {a:Addr} {o:Obj} {es:List (NestedKey×V×V)} {ds:List (PyData×PyData)}:H a=some (.frz o (gdO K.w a es))→es.map (fun e=>some e.1)=ds.map (fun q=>nk q.1)→(∀e∈es,e.1.depth≤8)→(es.map (·.1)).Nodup→RP K H (es.map (·.2.1)) (ds.map (·.1))→RP K H (es.map (·.2.2)) (ds.map (·.2))→DpZ K H (.ref a) (.dict ds)
inductive RP (K:KW) (H:Hp):List V→List PyData→Prop
 | nil:RP K H [] []
 | cons {v:V} {vs:List V} {d:PyData} {ds:List PyData}:DpZ K H v d→RP K H vs ds→RP K H (v::vs) (d::ds)
end
mutual
theorem DpZ.ext {K:KW} {H H':Hp} (e:Ext H H'):∀{v:V} {d:PyData},DpZ K H v d→DpZ K H' v d
 | _,_,.non => .non
 | _,_,.bl b => .bl b
 | _,_,.int i => .int i
 | _,_,.str x => .str x
 | _,_,.lst h r => .lst (h.ext e) (RP.ext e r)
 | _,_,.tup h r => .tup (SqT.ext h e) (RP.ext e r)
  | _,_,.dG h q h8 hn r r' => .dG (e _ _ rfl h) q h8 hn (RP.ext e r) (RP.ext e r')
theorem RP.ext {K:KW} {H H':Hp} (e:Ext H H'):∀{vs:List V} {ds:List PyData},RP K H vs ds→RP K H' vs ds
 | _,_,.nil => .nil
 | _,_,.cons h r => .cons (DpZ.ext e h) (RP.ext e r)
end
mutual
/-- data hang on the written part and the world alone -/
theorem DpZ.kw {K K':KW} {H:Hp} (hk:K'.K=K.K) (hw:K'.w=K.w):∀{v:V} {d:PyData},DpZ K H v d→DpZ K' H v d
 | _,_,.non => .non
 | _,_,.bl b => .bl b
 | _,_,.int i => .int i
 | _,_,.str x => .str x
 | _,_,.lst h r => .lst (by rw [hk];exact h) (RP.kw hk hw r)
 | _,_,.tup h r => .tup (by rw [hk];exact h) (RP.kw hk hw r)
 | _,_,.dG h q h8 hn r r' => .dG (by rw [hw];exact h) q h8 hn (RP.kw hk hw r) (RP.kw hk hw r')
theorem RP.kw {K K':KW} {H:Hp} (hk:K'.K=K.K) (hw:K'.w=K.w):∀{vs:List V} {ds:List PyData},RP K H vs ds→RP K' H vs ds
 | _,_,.nil => .nil
 | _,_,.cons h r => .cons (DpZ.kw hk hw h) (RP.kw hk hw r)
end
/-- what a dict's keys are as data -/
structure qry (K:KW) (H:Hp) (es:List (NestedKey×V×V)) (ks:List PyData):Prop where
 key:es.map (fun e=>some e.1)=ks.map nk
 dp:∀e∈es,e.1.depth≤8
 nd:(es.map (·.1)).Nodup
 kd:RP K H (es.map (·.2.1)) ks
theorem qry.ext {K:KW} {H H':Hp} {es:List (NestedKey×V×V)} {ks:List PyData} (r:qry K H es ks) (e:Ext H H'):qry K H' es ks:=⟨r.key,r.dp,r.nd,r.kd.ext e⟩
theorem qry.kw {K K':KW} {H:Hp} {es:List (NestedKey×V×V)} {ks:List PyData} (hk:K'.K=K.K) (hw:K'.w=K.w) (r:qry K H es ks):qry K' H es ks:=⟨r.key,r.dp,r.nd,r.kd.kw hk hw⟩
/-- an object that is a set of nested tuples: what hangs on itself alone -/
structure StD (w:World) (o:Obj) (L:List (Addr×NestedKey)):Prop where
 ex:o.ExactSet
 dat:∃(es:Array (Int×Value)) (ep:Nat) (t:SetTable),o.data = .set es ep t∧es.toList=L.map (fun p=>(p.2.hash w,Value.ref p.1))∧L2.TabOk t (L.map fun p=>p.2.hash w)∧(w.params.followText "set-order"=true∨t.led=true)∧L.length*5 < t.mask*3
 nd:(L.map (·.2)).Nodup
 few:L.length < 64
def stO (w:World) (a:Addr) (L:List (Addr×NestedKey)):HO := .ext fun h=>∃o,h.get? a=some o∧StD w o L
/-- the keys of a set as data -/
structure StK (K:KW) (H:Hp) (L:List (Addr×NestedKey)) (ps:List PyData):Prop where
 ds:∃ds:List PyData,Paired (fun (p:Addr×NestedKey) (d:PyData)=>nk d=some p.2∧p.2.depth≤8) L ds∧RP K H (L.map fun p=>V.ref p.1) ds∧∀d,d∈ds↔d∈ps
theorem StK.ext {K:KW} {H H':Hp} {L:List (Addr×NestedKey)} {ps:List PyData} (r:StK K H L ps) (e:Ext H H'):StK K H' L ps:=by
 obtain ⟨ds,h1,h2,h3⟩:=r.ds
 exact ⟨ds,h1,h2.ext e,h3⟩
theorem StK.kw {K K':KW} {H:Hp} {L:List (Addr×NestedKey)} {ps:List PyData} (hk:K'.K=K.K) (hw:K'.w=K.w) (r:StK K H L ps):StK K' H L ps:=by
 obtain ⟨ds,h1,h2,h3⟩:=r.ds
 exact ⟨ds,h1,h2.kw hk hw,h3⟩
mutual
def VD (K:KW) (H:Hp) (c:Anc) (v:V):D→Prop
 | .p d=>DpZ K H v d
 | .cell i=>∃a,c.at_ i=some a∧v = .ref a
 | .tup xs=>∃a vs,v = .ref a∧SqT K H a vs∧VDs K H c vs xs
 | .lst xs=>∃a vs,v = .ref a∧FzL K H a vs∧VDs K H c vs xs
 | .dct ks xs=>∃a o es,v = .ref a∧H a=some (.frz o (gdO K.w a es))∧qry K H es ks∧VDs K H c (es.map (·.2.2)) xs
 | .obj C ns xs=>∃a o Ca dx fs,v = .ref a∧K.mg C=some (.ref Ca)∧H a=some (.frz o (.ins Ca dx fs))∧fs.map (·.1)=ns∧VDs K H c (fs.map (·.2)) xs
 | .exn C ns xs=>∃a oe Ca d fs,K.hd=some (a,oe)∧v = .ref a∧K.mg C=some (.ref Ca)∧Zc (.ref Ca) d oe∧(∃vs,oe.data = .fields vs)∧((ns=[]∧d=none∧fs=[])∨∃dx,d=some dx∧H dx=some (.xd fs)∧fs.map (·.1)=ns)∧VDs K H c (fs.map (·.2)) xs
 | .exv C ns xs=>∃a o Ca d fs,v = .ref a∧K.mg C=some (.ref Ca)∧H a=some (.frz o (exo a Ca d))∧((ns=[]∧d=none∧fs=[])∨∃dx,d=some dx∧H dx=some (.xd fs)∧fs.map (·.1)=ns)∧VDs K H c (fs.map (·.2)) xs
 | .fn x=>∃a,K.mg x=some (.ref a)∧v = .ref a
 | .ty n=>v = .ty n
 | .opq=>∃a,v = .ref a
 | .st ps=>∃a o L,v = .ref a∧H a=some (.frz o (stO K.w a L))∧StK K H L ps
def VDs (K:KW) (H:Hp) (c:Anc) (vs:List V):List D→Prop
 | []=>vs=[]
 | d::ds=>∃v r,vs=v::r∧VD K H c v d∧VDs K H c r ds
end
/-- the one goes on from the other -/
def Pre (c c':Anc):Prop:=c.g <+: c'.g∧c.l <+: c'.l
theorem Pre.refl (c:Anc):Pre c c:=⟨List.prefix_refl _,List.prefix_refl _⟩
theorem Pre.trans {a b c:Anc} (h:Pre a b) (q:Pre b c):Pre a c:=⟨h.1.trans q.1,h.2.trans q.2⟩
theorem Zes {c c':List Addr} (h:c <+: c') {i:Nat} {a:Addr} (e:c[i]?=some a):c'[i]?=some a:=by
 obtain ⟨t,rfl⟩:=h
 rw [List.getElem?_append_left (List.getElem?_eq_some_iff.mp e).1]
 exact e
theorem ZaK {c c':Anc} (h:Pre c c'):∀{i:Ix} {a:Addr},c.at_ i=some a→c'.at_ i=some a
 | .g i,a,e=>Zes h.1 e
 | .l i,a,e=>Zes h.2 e
mutual
theorem VD.mono {K:KW} {H H':Hp} {c c':Anc} (e:Ext H H') (h:Pre c c'):∀{v:V} (d:D),VD K H c v d→VD K H' c' v d
 | v,.p d,r=>by unfold VD at r ⊢;exact DpZ.ext e r
 | v,.cell i,r=>by
  unfold VD at r ⊢
  obtain ⟨a,h1,h2⟩:=r
  exact ⟨a,ZaK h h1,h2⟩
 | v,.tup xs,r=>by
  unfold VD at r ⊢
  obtain ⟨a,vs,h1,h2,h3⟩:=r
  exact ⟨a,vs,h1,SqT.ext h2 e,VDs.mono e h xs h3⟩
 | v,.lst xs,r=>by
  unfold VD at r ⊢
  obtain ⟨a,vs,h1,h2,h3⟩:=r
  exact ⟨a,vs,h1,h2.ext e,VDs.mono e h xs h3⟩
 | v,.dct ks xs,r=>by
  unfold VD at r ⊢
  obtain ⟨a,o,es,h1,h2,h3,h4⟩:=r
  exact ⟨a,o,es,h1,e _ _ rfl h2,h3.ext e,VDs.mono e h xs h4⟩
 | v,.obj C ns xs,r=>by
  unfold VD at r ⊢
  obtain ⟨a,o,Ca,dx,fs,h1,h2,h3,h4,h5⟩:=r
  exact ⟨a,o,Ca,dx,fs,h1,h2,e _ _ rfl h3,h4,VDs.mono e h xs h5⟩
 | v,.exn C ns xs,r=>by
  unfold VD at r ⊢
  obtain ⟨a,oe,Ca,d,fs,h1,h2,h3,h4,h5,h6,h7⟩:=r
  refine ⟨a,oe,Ca,d,fs,h1,h2,h3,h4,h5,h6.imp id ?_,VDs.mono e h xs h7⟩
  rintro ⟨dx,q1,q2,q3⟩
  exact ⟨dx,q1,e _ _ rfl q2,q3⟩
 | v,.exv C ns xs,r=>by
  unfold VD at r ⊢
  obtain ⟨a,o,Ca,d,fs,h1,h2,h3,h4,h5⟩:=r
  refine ⟨a,o,Ca,d,fs,h1,h2,e _ _ rfl h3,h4.imp id ?_,VDs.mono e h xs h5⟩
  rintro ⟨dx,q1,q2,q3⟩
  exact ⟨dx,q1,e _ _ rfl q2,q3⟩
 | v,.fn x,r=>by unfold VD at r ⊢;exact r
 | v,.ty n,r=>by unfold VD at r ⊢;exact r
 | v,.opq,r=>by unfold VD at r ⊢;exact r
 | v,.st ps,r=>by
  unfold VD at r ⊢
  obtain ⟨a,o,L,h1,h2,h3⟩:=r
  exact ⟨a,o,L,h1,e _ _ rfl h2,h3.ext e⟩
theorem VDs.mono {K:KW} {H H':Hp} {c c':Anc} (e:Ext H H') (h:Pre c c'):∀{vs:List V} (ds:List D),VDs K H c vs ds→VDs K H' c' vs ds
 | vs,[],r=>by unfold VDs at r ⊢;exact r
 | vs,d::ds,r=>by
  unfold VDs at r ⊢
  obtain ⟨v,q,h1,h2,h3⟩:=r
  exact ⟨v,q,h1,VD.mono e h d h2,VDs.mono e h ds h3⟩
end
theorem VDs.length {K:KW} {H:Hp} {c:Anc}:∀{vs:List V} {ds:List D},VDs K H c vs ds→vs.length=ds.length
 | _,[],r=>by unfold VDs at r;subst r;rfl
 | _,d::ds,r=>by
  unfold VDs at r
  obtain ⟨v,q,h1,_,h3⟩:=r
  subst h1
  simp [VDs.length h3]
theorem VDs.get {K:KW} {H:Hp} {c:Anc}:∀{vs:List V} {ds:List D} {i:Nat} {d:D},VDs K H c vs ds→ds[i]?=some d→∃v,vs[i]?=some v∧VD K H c v d
 | _,[],_,_,_,e=>by simp at e
 | _,d::ds,0,d',r,e=>by
  unfold VDs at r
  obtain ⟨v,q,h1,h2,h3⟩:=r
  simp at e
  subst e h1
  exact ⟨v,rfl,h2⟩
 | _,d::ds,i+1,d',r,e=>by
  unfold VDs at r
  obtain ⟨v,q,h1,h2,h3⟩:=r
  subst h1
  simp at e
  obtain ⟨w,h4,h5⟩:=VDs.get h3 e
  exact ⟨w,by simpa using h4,h5⟩
theorem VDs.append {K:KW} {H:Hp} {c:Anc}:∀{vs ws:List V} {ds es:List D},VDs K H c vs ds→VDs K H c ws es→VDs K H c (vs++ws) (ds++es)
 | _,_,[],_,r,q=>by unfold VDs at r;subst r;exact q
 | _,_,d::ds,_,r,q=>by
  unfold VDs at r
  obtain ⟨v,t,h1,h2,h3⟩:=r
  subst h1
  show VDs K H c (v::(t++_)) (d::(ds++_))
  unfold VDs
  exact ⟨v,_,rfl,h2,VDs.append h3 q⟩
theorem VDs.set {K:KW} {H:Hp} {c:Anc} {v:V} {d:D} (h:VD K H c v d):∀{vs:List V} {ds:List D} (i:Nat),VDs K H c vs ds→VDs K H c (vs.set i v) (ds.set i d)
 | _,[],_,r=>by
  unfold VDs at r
  subst r
  simp [VDs]
 | _,e::ds,0,r=>by
  unfold VDs at r
  obtain ⟨w,t,h1,h2,h3⟩:=r
  subst h1
  show VDs K H c (v::t) (d::ds)
  unfold VDs
  exact ⟨v,t,rfl,h,h3⟩
 | _,e::ds,i+1,r=>by
  unfold VDs at r
  obtain ⟨w,t,h1,h2,h3⟩:=r
  subst h1
  show VDs K H c (w::t.set i v) (e::ds.set i d)
  unfold VDs
  exact ⟨w,_,rfl,h2,VDs.set h i h3⟩
theorem VDs.drop {K:KW} {H:Hp} {c:Anc}:∀{vs:List V} {ds:List D} (n:Nat),VDs K H c vs ds→VDs K H c (vs.drop n) (ds.drop n)
 | _,_,0,r=>r
 | _,[],n+1,r=>by unfold VDs at r;subst r;simp [VDs]
 | _,e::ds,n+1,r=>by
  unfold VDs at r
  obtain ⟨w,t,h1,h2,h3⟩:=r
  subst h1
  exact VDs.drop n h3
theorem VDs.take {K:KW} {H:Hp} {c:Anc}:∀{vs:List V} {ds:List D} (n:Nat),VDs K H c vs ds→VDs K H c (vs.take n) (ds.take n)
 | _,_,0,r=>by simp [VDs]
 | _,[],n+1,r=>by unfold VDs at r;subst r;simp [VDs]
 | _,e::ds,n+1,r=>by
  unfold VDs at r
  obtain ⟨w,t,h1,h2,h3⟩:=r
  subst h1
  show VDs K H c (w::t.take n) (e::ds.take n)
  unfold VDs
  exact ⟨w,_,rfl,h2,VDs.take n h3⟩
theorem VDs.one {K:KW} {H:Hp} {c:Anc} {v:V} {d:D} (h:VD K H c v d):VDs K H c [v] [d]:=by
 unfold VDs
 exact ⟨v,[],rfl,h,by unfold VDs;rfl⟩
theorem VDs.ofp {K:KW} {H:Hp} {c:Anc}:∀{vs:List V} {ds:List PyData},RP K H vs ds→VDs K H c vs (ds.map D.p)
 | _,_,.nil=>by simp [VDs]
 | _,_,.cons h r=>by
  show VDs K H c _ (D.p _::_)
  unfold VDs
  exact ⟨_,_,rfl,by unfold VD;exact h,VDs.ofp r⟩
theorem VDs.top {K:KW} {H:Hp} {c:Anc}:∀{vs:List V} {ds:List PyData},VDs K H c vs (ds.map D.p)→RP K H vs ds
 | _,[],r=>by
  simp [VDs] at r
  subst r
  exact .nil
 | _,d::ds,r=>by
  simp only [List.map_cons] at r
  unfold VDs at r
  obtain ⟨w,t,h1,h2,h3⟩:=r
  subst h1
  unfold VD at h2
  exact .cons h2 (VDs.top h3)
/-- what a dict's entries are as data -/
structure qaF (K:KW) (H:Hp) (c:Anc) (es:List (NestedKey×V×V)) (kvs:List (PyData×D)):Prop where
 key:es.map (fun e=>some e.1)=kvs.map (fun q=>nk q.1)
 dp:∀e∈es,e.1.depth≤8
 nd:(es.map (·.1)).Nodup
 kd:RP K H (es.map (·.2.1)) (kvs.map (·.1))
 vd:VDs K H c (es.map (·.2.2)) (kvs.map (·.2))
theorem qaF.mono {K:KW} {H H':Hp} {c c':Anc} {es:List (NestedKey×V×V)} {kvs:List (PyData×D)} (r:qaF K H c es kvs) (ex:Ext H H') (p:Pre c c'):qaF K H' c' es kvs:=⟨r.key,r.dp,r.nd,r.kd.ext ex,VDs.mono ex p _ r.vd⟩
def qdL (K:KW) (H:Hp) (c:Anc) (a:Addr):Cell→Prop
 | .lst ds=>∃xs,H a=some (.lst xs)∧VDs K H c xs ds
 | .dct kvs=>∃es,H a=some (gdO K.w a es)∧qaF K H c es kvs
 | .ins C fs=>∃Ca dx vs,H a=some (.ins Ca dx vs)∧K.mg C=some (.ref Ca)∧vs.map (·.1)=fs.map (·.1)∧VDs K H c (vs.map (·.2)) (fs.map (·.2))
 | .gone=>∃o u,H a=some (.frz o u)
/-- what the contents of a cell may name: a global cell no cell of the def's own -/
def glob {α:Type} (c:Two α):Two α:=⟨c.g,[]⟩
def qlL (c:Anc):Ix→Anc
 | .g _=>glob c
 | .l _=>c
theorem ZbG (c:Anc):Pre (glob c) c:=⟨List.prefix_refl _,List.nil_prefix⟩
theorem ZdC {c c':Anc} (p:Pre c c'):∀i,Pre (qlL c i) (qlL c' i)
 | .g _=>⟨p.1,List.prefix_refl _⟩
 | .l _=>p
theorem VN (c:Anc):∀i,Pre (qlL c i) c
 | .g _=>ZbG c
 | .l _=>Pre.refl c
mutual
/-- names no cell of the def's own -/
def nl:D→Bool
 | .p _=>true
 | .cell (.g _)=>true
 | .cell (.l _)=>false
 | .tup xs=>nls xs
 | .lst xs=>nls xs
 | .dct _ xs=>nls xs
 | .obj _ _ xs=>nls xs
 | .exn _ _ _=>false
 | .exv _ _ xs=>nls xs
 | .fn _=>true
 | .ty _=>true
 | .opq=>true
 | .st _=>true
def nls:List D→Bool
 | []=>true
 | d::ds=>nl d && nls ds
end
mutual
theorem VD.nl {K:KW} {H:Hp} {c:Anc}:∀{v:V} (d:D),VD K H c v d→nl d=true→VD K H (glob c) v d
 | v,.p d,r,_=>by unfold VD at r ⊢;exact r
 | v,.cell (.g i),r,_=>by unfold VD at r ⊢;exact r
 | v,.cell (.l i),r,e=>by simp [Dn.nl] at e
 | v,.tup xs,r,e=>by
  unfold VD at r ⊢
  obtain ⟨a,vs,h1,h2,h3⟩:=r
  exact ⟨a,vs,h1,h2,VDs.nl xs h3 (by simpa [Dn.nl] using e)⟩
 | v,.lst xs,r,e=>by
  unfold VD at r ⊢
  obtain ⟨a,vs,h1,h2,h3⟩:=r
  exact ⟨a,vs,h1,h2,VDs.nl xs h3 (by simpa [Dn.nl] using e)⟩
 | v,.dct ks xs,r,e=>by
  unfold VD at r ⊢
  obtain ⟨a,o,es,h1,h2,h3,h4⟩:=r
  exact ⟨a,o,es,h1,h2,h3,VDs.nl xs h4 (by simpa [Dn.nl] using e)⟩
 | v,.obj C ns xs,r,e=>by
  unfold VD at r ⊢
  obtain ⟨a,o,Ca,dx,fs,h1,h2,h3,h4,h5⟩:=r
  exact ⟨a,o,Ca,dx,fs,h1,h2,h3,h4,VDs.nl xs h5 (by simpa [Dn.nl] using e)⟩
 | v,.exn C ns xs,r,e=>by simp [Dn.nl] at e
 | v,.exv C ns xs,r,e=>by
  unfold VD at r ⊢
  obtain ⟨a,o,Ca,d,fs,h1,h2,h3,h4,h5⟩:=r
  exact ⟨a,o,Ca,d,fs,h1,h2,h3,h4,VDs.nl xs h5 (by simpa [Dn.nl] using e)⟩
 | v,.fn x,r,_=>by unfold VD at r ⊢;exact r
 | v,.ty n,r,_=>by unfold VD at r ⊢;exact r
 | v,.opq,r,_=>by unfold VD at r ⊢;exact r
 | v,.st ps,r,_=>by unfold VD at r ⊢;exact r
theorem VDs.nl {K:KW} {H:Hp} {c:Anc}:∀{vs:List V} (ds:List D),VDs K H c vs ds→nls ds=true→VDs K H (glob c) vs ds
 | vs,[],r,_=>by unfold VDs at r ⊢;exact r
 | vs,d::ds,r,e=>by
  unfold VDs at r ⊢
  obtain ⟨v,q,h1,h2,h3⟩:=r
  simp only [nls,Bool.and_eq_true] at e
  exact ⟨v,q,h1,VD.nl d h2 e.1,VDs.nl ds h3 e.2⟩
end
mutual
/-- names no exception that is being handled -/
def nx:D→Bool
 | .tup xs=>nxs xs
 | .lst xs=>nxs xs
 | .dct _ xs=>nxs xs
 | .obj _ _ xs=>nxs xs
 | .exn _ _ _=>false
 | .exv _ _ xs=>nxs xs
 | _=>true
def nxs:List D→Bool
 | []=>true
 | d::ds=>nx d && nxs ds
end
mutual
theorem VD.kw {K K':KW} {H:Hp} {c:Anc} (hk:K'.K=K.K) (hw:K'.w=K.w) (hm:K'.mg=K.mg):∀{v:V} (d:D),VD K H c v d→nx d=true→VD K' H c v d
 | v,.p d,r,_=>by unfold VD at r ⊢;exact r.kw hk hw
 | v,.cell i,r,_=>by unfold VD at r ⊢;exact r
 | v,.tup xs,r,e=>by
  unfold VD at r ⊢
  obtain ⟨a,vs,h1,h2,h3⟩:=r
  exact ⟨a,vs,h1,by rw [hk];exact h2,VDs.kw hk hw hm xs h3 (by simpa [nx] using e)⟩
 | v,.lst xs,r,e=>by
  unfold VD at r ⊢
  obtain ⟨a,vs,h1,h2,h3⟩:=r
  exact ⟨a,vs,h1,by rw [hk];exact h2,VDs.kw hk hw hm xs h3 (by simpa [nx] using e)⟩
 | v,.dct ks xs,r,e=>by
  unfold VD at r ⊢
  obtain ⟨a,o,es,h1,h2,h3,h4⟩:=r
  exact ⟨a,o,es,h1,by rw [hw];exact h2,h3.kw hk hw,VDs.kw hk hw hm xs h4 (by simpa [nx] using e)⟩
 | v,.obj C ns xs,r,e=>by
  unfold VD at r ⊢
  obtain ⟨a,o,Ca,dx,fs,h1,h2,h3,h4,h5⟩:=r
  exact ⟨a,o,Ca,dx,fs,h1,by rw [hm];exact h2,h3,h4,VDs.kw hk hw hm xs h5 (by simpa [nx] using e)⟩
 | v,.exn C ns xs,r,e=>by simp [nx] at e
 | v,.exv C ns xs,r,e=>by
  unfold VD at r ⊢
  obtain ⟨a,o,Ca,d,fs,h1,h2,h3,h4,h5⟩:=r
  exact ⟨a,o,Ca,d,fs,h1,by rw [hm];exact h2,h3,h4,VDs.kw hk hw hm xs h5 (by simpa [nx] using e)⟩
 | v,.fn x,r,_=>by unfold VD at r ⊢;rw [hm];exact r
 | v,.ty n,r,_=>by unfold VD at r ⊢;exact r
 | v,.opq,r,_=>by unfold VD at r ⊢;exact r
 | v,.st ps,r,_=>by
  unfold VD at r ⊢
  obtain ⟨a,o,L,h1,h2,h3⟩:=r
  exact ⟨a,o,L,h1,by rw [hw];exact h2,h3.kw hk hw⟩
theorem VDs.kw {K K':KW} {H:Hp} {c:Anc} (hk:K'.K=K.K) (hw:K'.w=K.w) (hm:K'.mg=K.mg):∀{vs:List V} (ds:List D),VDs K H c vs ds→nxs ds=true→VDs K' H c vs ds
 | vs,[],r,_=>by unfold VDs at r ⊢;exact r
 | vs,d::ds,r,e=>by
  unfold VDs at r ⊢
  obtain ⟨v,q,h1,h2,h3⟩:=r
  simp only [nxs,Bool.and_eq_true] at e
  exact ⟨v,q,h1,VD.kw hk hw hm d h2 e.1,VDs.kw hk hw hm ds h3 e.2⟩
end
mutual
theorem VD.nx {K:KW} (hh:K.hd=none) {H:Hp} {c:Anc}:∀{v:V} (d:D),VD K H c v d→nx d=true
 | v,.p d,r=>by simp [Dn.nx]
 | v,.cell i,r=>by simp [Dn.nx]
 | v,.tup xs,r=>by
  unfold VD at r
  obtain ⟨a,vs,h1,h2,h3⟩:=r
  simpa [Dn.nx] using VDs.nx hh xs h3
 | v,.lst xs,r=>by
  unfold VD at r
  obtain ⟨a,vs,h1,h2,h3⟩:=r
  simpa [Dn.nx] using VDs.nx hh xs h3
 | v,.dct ks xs,r=>by
  unfold VD at r
  obtain ⟨a,o,es,h1,h2,h3,h4⟩:=r
  simpa [Dn.nx] using VDs.nx hh xs h4
 | v,.obj C ns xs,r=>by
  unfold VD at r
  obtain ⟨a,o,Ca,dx,fs,h1,h2,h3,h4,h5⟩:=r
  simpa [Dn.nx] using VDs.nx hh xs h5
 | v,.exn C ns xs,r=>by
  unfold VD at r
  obtain ⟨a,oe,Ca,d,fs,h1,_⟩:=r
  rw [hh] at h1
  cases h1
 | v,.exv C ns xs,r=>by
  unfold VD at r
  obtain ⟨a,o,Ca,d,fs,h1,h2,h3,h4,h5⟩:=r
  simpa [Dn.nx] using VDs.nx hh xs h5
 | v,.fn x,r=>by simp [Dn.nx]
 | v,.ty n,r=>by simp [Dn.nx]
 | v,.opq,r=>by simp [Dn.nx]
 | v,.st ps,r=>by simp [Dn.nx]
theorem VDs.nx {K:KW} (hh:K.hd=none) {H:Hp} {c:Anc}:∀{vs:List V} (ds:List D),VDs K H c vs ds→nxs ds=true
 | vs,[],r=>by simp [nxs]
 | vs,d::ds,r=>by
  unfold VDs at r
  obtain ⟨v,q,h1,h2,h3⟩:=r
  simp only [nxs,Bool.and_eq_true]
  exact ⟨VD.nx hh d h2,VDs.nx hh ds h3⟩
end
mutual
theorem Zee:∀d:D,nl d=true→nx d=true
 | .p d,_=>by simp [nx]
 | .cell i,_=>by simp [nx]
 | .tup xs,e=>by simp only [nl,nx] at e ⊢;exact YX xs e
 | .lst xs,e=>by simp only [nl,nx] at e ⊢;exact YX xs e
 | .dct ks xs,e=>by simp only [nl,nx] at e ⊢;exact YX xs e
 | .obj C ns xs,e=>by simp only [nl,nx] at e ⊢;exact YX xs e
 | .exn C ns xs,e=>by simp [nl] at e
 | .exv C ns xs,e=>by simp only [nl,nx] at e ⊢;exact YX xs e
 | .fn x,_=>by simp [nx]
 | .ty n,_=>by simp [nx]
 | .opq,_=>by simp [nx]
 | .st ps,_=>by simp [nx]
theorem YX:∀ds:List D,nls ds=true→nxs ds=true
 | [],_=>by simp [nxs]
 | d::ds,e=>by
  simp only [nls,nxs,Bool.and_eq_true] at e ⊢
  exact ⟨Zee d e.1,YX ds e.2⟩
end
theorem VD.cold {K:KW} {H:Hp} {c:Anc} {v:V} {d:D} (h:VD K H c v d) (e:Dn.nx d=true):VD K.cold H c v d:=VD.kw (K:=K) (K':=K.cold) rfl rfl rfl d h e
theorem VDs.cold {K:KW} {H:Hp} {c:Anc} {v:List V} {d:List D} (h:VDs K H c v d) (e:nxs d=true):VDs K.cold H c v d:=VDs.kw (K:=K) (K':=K.cold) rfl rfl rfl d h e
theorem VD.warm {K:KW} {H:Hp} {c:Anc} {v:V} {d:D} (h:VD K.cold H c v d):VD K H c v d:=VD.kw (K:=K.cold) (K':=K) rfl rfl rfl d h (VD.nx rfl d h)
theorem VDs.warm {K:KW} {H:Hp} {c:Anc} {v:List V} {d:List D} (h:VDs K.cold H c v d):VDs K H c v d:=VDs.kw (K:=K.cold) (K':=K) rfl rfl rfl d h (VDs.nx rfl d h)
def Has (c:Anc) (a:Addr):Prop:=∃i,c.at_ i=some a
structure Q9 (K:KW) (c:Anc) (m:Store) (H:Hp):Prop where
 len:c.g.length=m.g.length∧c.l.length=m.l.length
 inj:∀(i j:Ix) (a:Addr),c.at_ i=some a→c.at_ j=some a→i=j
 at_:∀(i:Ix) (a:Addr) (x:Cell),c.at_ i=some a→m.at_ i=some x→qdL K.cold H (qlL c i) a x
structure Gd (K:KW) (c c':Anc) (m':Store) (H H':Hp):Prop where
 pre:Pre c c'
 ext:Ext H H'
 new:∀a,Has c' a→Has c a∨H a=none
 frame:∀b o,¬Has c b→H b=some o→H' b=some o
 rel:Q9 K c' m' H'
theorem Has.pre {c c':Anc} {a:Addr} (h:Has c a) (p:Pre c c'):Has c' a:=let ⟨i,e⟩:=h;⟨i,ZaK p e⟩
theorem Gd.refl {K:KW} {c:Anc} {m:Store} {H:Hp} (r:Q9 K c m H):Gd K c c m H H:=⟨Pre.refl _,Ext.refl _,fun _ h => .inl h,fun _ _ _ h=>h,r⟩
theorem Gd.trans {K:KW} {c c1 c2:Anc} {m1 m2:Store} {H H1 H2:Hp} (a:Gd K c c1 m1 H H1) (b:Gd K c1 c2 m2 H1 H2):Gd K c c2 m2 H H2:=by
 refine ⟨a.pre.trans b.pre,a.ext.trans b.ext,fun p hp=>?_,fun p o hn ho=>?_,b.rel⟩
 ·rcases b.new p hp with h | h
  ·exact a.new p h
  ·by_cases hc:Has c p
   ·exact .inl hc
   ·right
    cases e:H p with
    | none=>rfl
    | some o=>rw [a.frame p o hc e] at h;cases h
 ·have h1:=a.frame p o hn ho
  refine b.frame p o (fun z=>?_) h1
  rcases a.new p z with q | q
  ·exact hn q
  ·rw [ho] at q;cases q
theorem Gd.vd {K:KW} {c c':Anc} {m':Store} {H H':Hp} (g:Gd K c c' m' H H') {v:V} {d:D} (h:VD K H c v d):VD K H' c' v d:=VD.mono g.ext g.pre d h
theorem Gd.vds {K:KW} {c c':Anc} {m':Store} {H H':Hp} (g:Gd K c c' m' H H') {vs:List V} {ds:List D} (h:VDs K H c vs ds):VDs K H' c' vs ds:=VDs.mono g.ext g.pre ds h
structure Slo (K:KW) (H:Hp) (c:Anc) (ρ:Rho) (σ:St):Prop where
 len:ρ.length=σ.length
 at_:∀(i:Nat) (d:D),ρ[i]?=some (some d)→∃v,σ[i]?=some (some v)∧VD K H c v d
theorem Gd.slots {K:KW} {c c':Anc} {m':Store} {H H':Hp} {ρ:Rho} {σ:St} (g:Gd K c c' m' H H') (s:Slo K H c ρ σ):Slo K H' c' ρ σ :=
 ⟨s.len,fun i d e=>let ⟨v,h1,h2⟩:=s.at_ i d e;⟨v,h1,g.vd h2⟩⟩
theorem Slo.set {K:KW} {H:Hp} {c:Anc} {ρ:Rho} {σ:St} (s:Slo K H c ρ σ) (i:Nat) {v:V} {d:D} (h:VD K H c v d):Slo K H c (ρ.set i (some d)) (σ.set i (some v)):=by
 refine ⟨by simp [s.len],fun j d' e=>?_⟩
 by_cases hj:j=i
 ·subst hj
  by_cases hl:j < ρ.length
  ·rw [List.getElem?_set_self hl] at e
   cases e
   exact ⟨v,List.getElem?_set_self (by rw [←s.len];exact hl),h⟩
  ·rw [List.getElem?_eq_none (by simpa using Nat.le_of_not_lt hl)] at e
   cases e
 ·rw [List.getElem?_set_ne (Ne.symm hj)] at e ⊢
  exact s.at_ j d' e
theorem Q9.trk {K:KW} {c:Anc} {m:Store} {H:Hp} (r:Q9 K c m H) {a:Addr} (h:Has c a):∃o,H a=some o:=by
 obtain ⟨i,e⟩:=h
 have hm:∃x,m.at_ i=some x:=by
  cases i with
  | g i =>
   have:i < m.g.length:=by rw [←r.len.1];exact (List.getElem?_eq_some_iff.mp e).1
   exact ⟨_,List.getElem?_eq_getElem this⟩
  | l i =>
   have:i < m.l.length:=by rw [←r.len.2];exact (List.getElem?_eq_some_iff.mp e).1
   exact ⟨_,List.getElem?_eq_getElem this⟩
 obtain ⟨x,hx⟩:=hm
 have q:=r.at_ i a x e hx
 cases x with
 | lst ds=>obtain ⟨xs,h,_⟩:=q;exact ⟨_,h⟩
 | dct kvs=>obtain ⟨xs,h,_⟩:=q;exact ⟨_,h⟩
 | ins C fs=>obtain ⟨_,_,xs,h,_⟩:=q;exact ⟨_,h⟩
 | gone=>obtain ⟨o,u,h⟩:=q;exact ⟨_,h⟩
theorem Q9.not {K:KW} {c:Anc} {m:Store} {H:Hp} (r:Q9 K c m H) {a:Addr} (h:H a=none):¬Has c a:=fun z=>by
 obtain ⟨o,e⟩:=r.trk z
 rw [h] at e;cases e
theorem Wy (c:Anc) (a:Addr) (loc:Bool):Pre c (c.push a loc):=by
 cases loc with
 | true=>exact ⟨List.prefix_refl _,List.prefix_append _ _⟩
 | false=>exact ⟨List.prefix_append _ _,List.prefix_refl _⟩
theorem Zc2 {α:Type} {l:List α} {x y:α} {i:Nat} (h:(l++[x])[i]?=some y):l[i]?=some y∨(i=l.length∧y=x):=by
 by_cases hi:i < l.length
 ·rw [List.getElem?_append_left hi] at h
  exact .inl h
 ·have hl:i < (l++[x]).length:=(List.getElem?_eq_some_iff.mp h).1
  have e:i=l.length:=by simp at hl;omega
  subst e
  rw [List.getElem?_append_right (Nat.le_refl _)] at h
  simp at h
  exact .inr ⟨rfl,h.symm⟩
theorem Vp {α:Type} {t:Two α} {x y:α} {loc:Bool} {i:Ix} (h:(t.push x loc).at_ i=some y):t.at_ i=some y∨(i=t.next loc∧y=x):=by
 cases loc with
 | true =>
  cases i with
  | g i=>exact .inl h
  | l i =>
   rcases Zc2 (l:=t.l) h with q | ⟨q1,q2⟩
   ·exact .inl q
   ·exact .inr ⟨by rw [q1];rfl,q2⟩
 | false =>
  cases i with
  | l i=>exact .inl h
  | g i =>
   rcases Zc2 (l:=t.g) h with q | ⟨q1,q2⟩
   ·exact .inl q
   ·exact .inr ⟨by rw [q1];rfl,q2⟩
theorem JQ {α:Type} (t:Two α) (x:α) (loc:Bool):(t.push x loc).at_ (t.next loc)=some x:=by
 cases loc with
 | true=>show (t.l++[x])[t.l.length]?=some x;simp
 | false=>show (t.g++[x])[t.g.length]?=some x;simp
theorem next_none {α:Type} (t:Two α) (loc:Bool):t.at_ (t.next loc)=none:=by
 cases loc with
 | true=>show t.l[t.l.length]?=none;simp
 | false=>show t.g[t.g.length]?=none;simp
theorem Jb {K:KW} {c:Anc} {m:Store} {H:Hp} (r:Q9 K c m H) (loc:Bool):c.next loc=m.next loc:=by
 cases loc with
 | true=>show Ix.l _=Ix.l _;rw [r.len.2]
 | false=>show Ix.g _=Ix.g _;rw [r.len.1]
theorem ZeM {t:Store} {x y:Cell} {i j:Ix} (h:(t.set x i).at_ j=some y):(j=i∧y=x)∨(j≠i∧t.at_ j=some y):=by
 cases i with
 | g i =>
  cases j with
  | l j=>exact .inr ⟨(by intro z;cases z),h⟩
  | g j =>
   by_cases hj:j=i
   ·subst hj
    have h':(t.g.set j x)[j]?=some y:=h
    have hl:j < (t.g.set j x).length:=(List.getElem?_eq_some_iff.mp h').1
    rw [List.getElem?_set_self (by simpa using hl)] at h'
    exact .inl ⟨rfl,(Option.some.inj h').symm⟩
   ·have h':(t.g.set i x)[j]?=some y:=h
    rw [List.getElem?_set_ne (Ne.symm hj)] at h'
    exact .inr ⟨(by intro z;cases z;exact hj rfl),h'⟩
 | l i =>
  cases j with
  | g j=>exact .inr ⟨(by intro z;cases z),h⟩
  | l j =>
   by_cases hj:j=i
   ·subst hj
    have h':(t.l.set j x)[j]?=some y:=h
    have hl:j < (t.l.set j x).length:=(List.getElem?_eq_some_iff.mp h').1
    rw [List.getElem?_set_self (by simpa using hl)] at h'
    exact .inl ⟨rfl,(Option.some.inj h').symm⟩
   ·have h':(t.l.set i x)[j]?=some y:=h
    rw [List.getElem?_set_ne (Ne.symm hj)] at h'
    exact .inr ⟨(by intro z;cases z;exact hj rfl),h'⟩
theorem ZaR (t:Store) (x:Cell) (i:Ix):(t.set x i).g.length=t.g.length∧(t.set x i).l.length=t.l.length:=by
 cases i with
 | g i=>exact ⟨List.length_set ..,rfl⟩
 | l i=>exact ⟨rfl,List.length_set ..⟩
theorem qdL.mono {K:KW} {H H':Hp} {c c':Anc} {a:Addr} {x:Cell} (h:qdL K H c a x) (ex:Ext H H') (p:Pre c c') (k:∀u,JK u=true→H a=some u→H' a=some u):qdL K H' c' a x:=by
 cases x with
 | lst ds=>obtain ⟨xs,e,hv⟩:=h;exact ⟨xs,k _ rfl e,VDs.mono ex p _ hv⟩
 | dct kvs=>obtain ⟨es,e,hv⟩:=h;exact ⟨es,k _ rfl e,hv.mono ex p⟩
 | ins C fs=>obtain ⟨Ca,dx,vs,e,e1,e2,hv⟩:=h;exact ⟨Ca,dx,vs,k _ rfl e,e1,e2,VDs.mono ex p _ hv⟩
 | gone=>obtain ⟨o,u,e⟩:=h;exact ⟨o,u,ex _ _ rfl e⟩
/-- a tracked object becomes a cell -/
theorem Q9.qvq {K:KW} {c:Anc} {m:Store} {H:Hp} (r:Q9 K c m H) (loc:Bool) {a:Addr} {x0:Cell} (hn:¬Has c a) (h:qdL K.cold H (qlL c (c.next loc)) a x0):Q9 K (c.push a loc) (m.push x0 loc) H:=by
 have pr:=Wy c a loc
 refine ⟨?_,fun i j b h1 h2=>?_,fun i b x h1 h2=>?_⟩
 ·cases loc with
  | true=>exact ⟨r.len.1,by show (c.l++[a]).length=(m.l++[_]).length;simp [r.len.2]⟩
  | false=>exact ⟨by show (c.g++[a]).length=(m.g++[_]).length;simp [r.len.1],r.len.2⟩
 ·rcases Vp h1 with p1 | ⟨p1,p2⟩
  ·rcases Vp h2 with q1 | ⟨q1,q2⟩
   ·exact r.inj i j b p1 q1
   ·subst q2;exact absurd ⟨i,p1⟩ hn
  ·rcases Vp h2 with q1 | ⟨q1,q2⟩
   ·subst p2;exact absurd ⟨j,q1⟩ hn
   ·rw [p1,q1]
 ·rcases Vp h2 with q1 | ⟨q1,q2⟩
  ·rcases Vp h1 with p1 | ⟨p1,p2⟩
   ·exact (r.at_ i b x p1 q1).mono (Ext.refl _) (ZdC pr i) fun _ _ e=>e
   ·rw [p1,Jb r,next_none] at q1;cases q1
  ·rcases Vp h1 with p1 | ⟨p1,p2⟩
   ·rw [q1,←Jb r,next_none] at p1;cases p1
   ·subst p2 q2 p1
    exact h.mono (Ext.refl _) (ZdC pr _) fun _ _ e=>e
/-- a tracked list becomes a cell -/
theorem Q9.adopt {K:KW} {c:Anc} {m:Store} {H:Hp} (r:Q9 K c m H) (loc:Bool) {a:Addr} {xs:List V} {ds:List D} (hn:¬Has c a) (ha:H a=some (.lst xs)) (h:VDs K.cold H (qlL c (c.next loc)) xs ds):Q9 K (c.push a loc) (m.push (.lst ds) loc) H:=r.qvq loc hn ⟨xs,ha,h⟩
theorem KN {c:Anc} {a b:Addr} {loc:Bool} (h:Has (c.push a loc) b):Has c b∨b=a:=by
 obtain ⟨i,e⟩:=h
 rcases Vp e with q | ⟨_,q⟩
 ·exact .inl ⟨i,q⟩
 ·exact .inr q
/-- a new object that is no cell -/
theorem Q9.lay {K:KW} {c:Anc} {m:Store} {H:Hp} (r:Q9 K c m H) {a:Addr} {o:HO} (hn:H a=none):Gd K c c m H (upd H a o):=by
 have ex:Ext H (upd H a o):=Ext.new hn
 exact ⟨Pre.refl _,ex,fun _ h => .inl h,fun b u _ e=>by rw [upd_ne (ne_of_none e hn)];exact e,r.len,r.inj,fun i b x h1 h2=>(r.at_ i b x h1 h2).mono ex (Pre.refl _) fun u _ e=>by rw [upd_ne (ne_of_none e hn)];exact e⟩
/-- a cell is new -/
theorem Q9.new {K:KW} {c:Anc} {m:Store} {H:Hp} (r:Q9 K c m H) (loc:Bool) {a:Addr} {xs:List V} {ds:List D} (hn:H a=none) (h:VDs K.cold H (qlL c (c.next loc)) xs ds):Gd K c (c.push a loc) (m.push (.lst ds) loc) H (upd H a (.lst xs)):=by
 have g:Gd K c c m H (upd H a (.lst xs)):=r.lay hn
 have r2:=g.rel.adopt loc (r.not hn) upd_same (VDs.mono g.ext (Pre.refl _) _ h)
 exact ⟨Wy _ _ _,g.ext,fun b hb=>(KN hb).elim .inl fun e => .inr (by rw [e];exact hn),g.frame,r2⟩
theorem Q9.other {K:KW} {c:Anc} {m:Store} {H:Hp} (r:Q9 K c m H) {i j:Ix} {a b:Addr} {x y:Cell} {o:HO} (hi:c.at_ i=some a) (hx:m.at_ i=some x) (lx:x ≠ .gone) (hj:c.at_ j=some b) (hy:m.at_ j=some y) (h:j≠i) :
  ∀u,JK u=true→H b=some u→(upd H a o) b=some u:=fun zs lz e=>by
 have ne:b≠a:=fun z=>h (r.inj j i b hj (z ▸ hi))
 rw [upd_ne ne]
 exact e
/-- a cell is written,whatever it is -/
theorem Q9.qwX {K:KW} {c:Anc} {m:Store} {H:Hp} (r:Q9 K c m H) {i:Ix} {a:Addr} {u0 u1:HO} {x0 x1:Cell} (hi:c.at_ i=some a) (hm:m.at_ i=some x0) (lx:x0 ≠ .gone) (ha:H a=some u0) (l0:JK u0=true) (h:qdL K.cold (upd H a u1) (qlL c i) a x1) :
  Gd K c c (m.set x1 i) H (upd H a u1):=by
 have ex:Ext H (upd H a u1):=Ext.qv8 ha l0
 refine ⟨Pre.refl _,ex,fun _ h => .inl h,fun b u hb e=>?_,?_,fun j k b h1 h2=>?_,fun j b x h1 h2=>?_⟩
 ·rw [upd_ne (fun z=>hb ⟨i,by rw [z];exact hi⟩)];exact e
 ·rw [(ZaR m x1 i).1,(ZaR m x1 i).2];exact r.len
 ·exact r.inj j k b h1 h2
 ·rcases ZeM h2 with ⟨p1,p2⟩ | ⟨p1,p2⟩
  ·subst p1 p2
   rw [hi] at h1
   cases h1
   exact h
  ·exact (r.at_ j b x h1 p2).mono ex (Pre.refl _) (r.other hi hm lx h1 p2 p1)
/-- a list is written -/
theorem Q9.put {K:KW} {c:Anc} {m:Store} {H:Hp} (r:Q9 K c m H) {i:Ix} {a:Addr} {ys xs:List V} {ds es:List D} (hi:c.at_ i=some a) (hm:m.at_ i=some (.lst es)) (ha:H a=some (.lst ys)) (h:VDs K.cold H (qlL c i) xs ds) :
  Gd K c c (m.set (.lst ds) i) H (upd H a (.lst xs)):=r.qwX hi hm (by intro z;cases z) ha rfl ⟨xs,upd_same,VDs.mono (Ext.put ha) (Pre.refl _) _ h⟩
/-- a cell is frozen -/
theorem Q9.qvF {K:KW} {c:Anc} {m:Store} {H:Hp} (r:Q9 K c m H) {i:Ix} {a:Addr} {u:HO} {x0:Cell} {o:Obj} (hi:c.at_ i=some a) (hm:m.at_ i=some x0) (lx:x0 ≠ .gone) (ha:H a=some u) (lu:JK u=true) :
  Gd K c c (m.set .gone i) H (upd H a (.frz o u)):=by
 have ex:Ext H (upd H a (.frz o u)):=Ext.qv8 ha lu
 refine ⟨Pre.refl _,ex,fun _ h => .inl h,fun b u hb e=>?_,?_,fun j k b h1 h2=>?_,fun j b x h1 h2=>?_⟩
 ·rw [upd_ne (fun z=>hb ⟨i,by rw [z];exact hi⟩)];exact e
 ·rw [(ZaR m .gone i).1,(ZaR m .gone i).2];exact r.len
 ·exact r.inj j k b h1 h2
 ·rcases ZeM h2 with ⟨p1,p2⟩ | ⟨p1,p2⟩
  ·subst p1 p2
   rw [hi] at h1
   cases h1
   exact ⟨o,_,upd_same⟩
  ·exact (r.at_ j b x h1 p2).mono ex (Pre.refl _) (r.other hi hm lx h1 p2 p1)
end L2.Dn
namespace L2.Dn
open PySem PySem.Spec PyProof.Rows L2
def Ym:D→Store→Option (List D)
 | .p (.list ds),_=>some (ds.map D.p)
 | .lst xs,_=>some xs
 | .cell i,m=>match m.at_ i with
  | some (.lst xs)=>some xs
  | _=>none
 | _,_=>none
def Yw:D→Option (List D)
 | .p (.tuple ds)=>some (ds.map D.p)
 | .tup xs=>some xs
 | _=>none
section
variable {K:KW} {H:Hp} {c:Anc} {m:Store} {v:V} {d:D} {ds:List D}
theorem VD.int {i:Int}:VD K H c v (.p (.int i))↔v = .int i:=by
 unfold VD
 exact ⟨fun h=>by cases h;rfl,fun h=>by subst h;exact .int i⟩
theorem VD.str {x:Str}:VD K H c v (.p (.str x))↔v = .str x:=by
 unfold VD
 exact ⟨fun h=>by cases h;rfl,fun h=>by subst h;exact .str x⟩
theorem VD.bl {b:Bool}:VD K H c v (.p (.bool b))↔v = .bl b:=by
 unfold VD
 exact ⟨fun h=>by cases h;rfl,fun h=>by subst h;exact .bl b⟩
theorem VD.non:VD K H c v (.p .none)↔v = .non:=by
 unfold VD
 exact ⟨fun h=>by cases h;rfl,fun h=>by subst h;exact .non⟩
theorem YS (r:Q9 K c m H) (h:VD K H c v d) (e:Ym d m=some ds):∃a vs,v = .ref a∧RdL K H a vs∧VDs K H c vs ds:=by
 unfold Ym at e
 split at e
 ·cases e
  unfold VD at h
  cases h with
  | lst f q=>exact ⟨_,_,rfl,f.rd,VDs.ofp q⟩
 ·cases e
  unfold VD at h
  obtain ⟨a,vs,h1,h2,h3⟩:=h
  exact ⟨a,vs,h1,h2.rd,h3⟩
 ·unfold VD at h
  obtain ⟨a,h1,h2⟩:=h
  split at e
  ·rename_i h3
   cases e
   obtain ⟨xs,h4,h5⟩:=r.at_ _ _ _ h1 h3
   exact ⟨a,xs,h2,.inl h4,VDs.mono (Ext.refl _) (VN _ _) _ h5.warm⟩
  ·cases e
 ·cases e
theorem Jg (h:VD K H c v d) (e:Yw d=some ds):∃a vs,v = .ref a∧SqT K H a vs∧VDs K H c vs ds:=by
 unfold Yw at e
 split at e
 ·cases e
  unfold VD at h
  cases h with
  | tup f q=>exact ⟨_,_,rfl,f,VDs.ofp q⟩
 ·cases e
  unfold VD at h
  obtain ⟨a,vs,h1,h2,h3⟩:=h
  exact ⟨a,vs,h1,h2,h3⟩
 ·cases e
end
def Z8:List D→Option (List PyData)
 | []=>some []
 | .p d::r=>match Z8 r with
  | some ds=>some (d::ds)
  | none=>none
 | _::_=>none
theorem Zeu:∀ds:List PyData,Z8 (ds.map D.p)=some ds
 | []=>rfl
 | d::ds=>by simp [Z8,Zeu ds]
theorem YZ:∀{xs:List D} {ds:List PyData},Z8 xs=some ds→xs=ds.map D.p
 | [],ds,e=>by simp [Z8] at e;subst e;rfl
 | .p d::r,ds,e=>by
  unfold Z8 at e
  split at e
  ·rename_i es h
   cases e
   rw [YZ h]
   rfl
  ·cases e
 | .cell _::_,_,e=>by simp [Z8] at e
 | .tup _::_,_,e=>by simp [Z8] at e
 | .lst _::_,_,e=>by simp [Z8] at e
 | .dct _ _::_,_,e=>by simp [Z8] at e
 | .obj _ _ _::_,_,e=>by simp [Z8] at e
 | .exn _ _ _::_,_,e=>by simp [Z8] at e
 | .exv _ _ _::_,_,e=>by simp [Z8] at e
 | .fn _::_,_,e=>by simp [Z8] at e
 | .ty _::_,_,e=>by simp [Z8] at e
 | .opq::_,_,e=>by simp [Z8] at e
 | .st _::_,_,e=>by simp [Z8] at e
def Zh (xs:List D):D:=match Z8 xs with
 | some ds => .p (.list ds)
 | none => .lst xs
def Yj (xs:List D):D:=match Z8 xs with
 | some ds => .p (.tuple ds)
 | none => .tup xs
theorem Wu (ds:List PyData):Zh (ds.map D.p) = .p (.list ds):=by unfold Zh;rw [Zeu]
theorem ZbU {K:KW} {H:Hp} {c:Anc} {a:Addr} {vs:List V} {xs:List D} (h:VDs K H c vs xs) (f:FzL K H a vs):VD K H c (.ref a) (Zh xs):=by
 unfold Zh
 split
 ·rename_i ds e
  have:=YZ e
  subst this
  unfold VD
  exact .lst f (VDs.top h)
 ·unfold VD
  exact ⟨a,vs,rfl,f,h⟩
theorem VR {K:KW} {H:Hp} {c:Anc} {a:Addr} {vs:List V} {xs:List D} (h:VDs K H c vs xs) (f:SqT K H a vs):VD K H c (.ref a) (Yj xs):=by
 unfold Yj
 split
 ·rename_i ds e
  have:=YZ e
  subst this
  unfold VD
  exact .tup f (VDs.top h)
 ·unfold VD
  exact ⟨a,vs,rfl,f,h⟩
/-- how a new list is kept: frozen at once,a cell of the def,a global cell -/
inductive Md where
 | z | l | g
def ZV:Md→List D→Store→Res D
 | .z,xs,m => .ok (Zh xs) m
 | .l,xs,m=>if nxs xs then .ok (.cell (m.next true)) (m.push (.lst xs) true) else .stuck
 | .g,xs,m=>if nls xs then .ok (.cell (m.next false)) (m.push (.lst xs) false) else .stuck
section
variable {X:Cx} {pins:List (Addr×Obj)} {σ:St} {H:Hp} {s:Shared}
/-- Q,or Q behind the qwI of the value -/
def QF (Q:VK):VK:=fun v H=>Q v H∨∃a u,v = .ref a∧H a=some u∧Mut (some u)∧∀o,Q v (upd H a (.frz o u))
theorem EP.frz {Q:VK} {u:Value} (h:EP X pins σ (QF Q) u s):EP X pins σ Q u s:=by
 obtain ⟨v,H',I,r,q | ⟨a,xs,e,h1,mu,q⟩⟩:=h
 ·exact ⟨v,H',I,r,q⟩
 ·obtain ⟨o,I'⟩:=Inv.lock I h1 mu
  exact ⟨v,_,I',r,q o⟩
end
def qrz (K:KW) (H:Hp) (c:Anc) (x:Exn) (cls:Value) (dd:Option Addr):Prop :=
 ∃C,K.mg x.cls=some (.ref C)∧cls = .ref C∧((x.fs=[]∧dd=none)∨∃dx vs,dd=some dx∧H dx=some (.xd vs)∧vs.map (·.1)=x.fs.map (·.1)∧VDs K H c (vs.map (·.2)) (x.fs.map (·.2)))
/-- what is wanted behind r -/
def Want (X:Cx) (W:WX) (c:Anc) (H:Hp) (σ:St) (r:Res D) (Q:VK):Prop:=match r with
 | .ok d m'=>∀c' v H',Gd X.kw c c' m' H H'→VD X.kw H' c' v d→Q v H'
 | .exc x m'=>∀c' cls dd H',Gd X.kw c c' m' H H'→qrz X.kw H' c' x cls dd→W cls dd σ H'
 | .stuck=>False
def qdN (X:Cx) (W:WX) (c:Anc) (H:Hp) (σ:St) (r:Res (List D)) (Q:List V→Hp→Prop):Prop:=match r with
 | .ok ds m'=>∀c' vs H',Gd X.kw c c' m' H H'→VDs X.kw H' c' vs ds→Q vs H'
 | .exc x m'=>∀c' cls dd H',Gd X.kw c c' m' H H'→qrz X.kw H' c' x cls dd→W cls dd σ H'
 | .stuck=>False
def Df (X:Cx) (W:WX) (c:Anc) (H:Hp) (σ:St) (r:Res Bool) (Q:Bool→Hp→Prop):Prop:=match r with
 | .ok b m'=>∀c' H',Gd X.kw c c' m' H H'→Q b H'
 | .exc x m'=>∀c' cls dd H',Gd X.kw c c' m' H H'→qrz X.kw H' c' x cls dd→W cls dd σ H'
 | .stuck=>False
section
variable {X:Cx} {W:WX} {c c':Anc} {H H':Hp} {σ:St} {m m':Store}
theorem Want.shift {r:Res D} {Q:VK} (g:Gd X.kw c c' m' H H') (h:Want X W c H σ r Q):Want X W c' H' σ r Q:=by
 cases r with
 | ok d m1=>exact fun c1 v H1 g1 hv=>h c1 v H1 (g.trans g1) hv
 | exc x m1=>exact fun c1 cls dd H1 g1 hv=>h c1 cls dd H1 (g.trans g1) hv
 | stuck=>exact h
theorem qdN.shift {r:Res (List D)} {Q:List V→Hp→Prop} (g:Gd X.kw c c' m' H H') (h:qdN X W c H σ r Q):qdN X W c' H' σ r Q:=by
 cases r with
 | ok d m1=>exact fun c1 v H1 g1 hv=>h c1 v H1 (g.trans g1) hv
 | exc x m1=>exact fun c1 cls dd H1 g1 hv=>h c1 cls dd H1 (g.trans g1) hv
 | stuck=>exact h
theorem Df.shift {r:Res Bool} {Q:Bool→Hp→Prop} (g:Gd X.kw c c' m' H H') (h:Df X W c H σ r Q):Df X W c' H' σ r Q:=by
 cases r with
 | ok d m1=>exact fun c1 H1 g1=>h c1 H1 (g.trans g1)
 | exc x m1=>exact fun c1 cls dd H1 g1 hv=>h c1 cls dd H1 (g.trans g1) hv
 | stuck=>exact h
/-- at once -/
theorem Want.now {Q:VK} {v:V} {d:D} (r:Q9 X.kw c m H) (h:Want X W c H σ (.ok d m) Q) (hv:VD X.kw H c v d):Q v H:=h c v H (Gd.refl r) hv
theorem ZhT {z:Md} {ds:List D} {xs:List V} {Q:VK} (r:Q9 X.kw c m H) (hv:VDs X.kw H c xs ds) (h:Want X W c H σ (ZV z ds m) Q):∀p,H p=none→QF Q (.ref p) (upd H p (.lst xs)):=by
 intro p hp
 cases z with
 | z =>
  right
  refine ⟨p,_,rfl,upd_same,trivial,fun o=>?_⟩
  rw [upd_upd]
  have g:Gd X.kw c c m H (upd H p (.frz o (.lst xs))):=r.lay hp
  exact h c _ _ g (ZbU (g.vds hv) (.inl ⟨o,upd_same⟩))
 | l =>
  left
  cases hn:nxs ds with
  | false=>rw [ZV,hn] at h;exact h.elim
  | true =>
   rw [ZV,hn] at h
   have g:=r.new true (ds:=ds) hp (hv.cold hn)
   refine h _ _ _ g ?_
   unfold VD
   exact ⟨p,by rw [←Jb r];exact JQ _ _ _,rfl⟩
 | g =>
  left
  cases hn:nls ds with
  | false=>rw [ZV,hn] at h;exact h.elim
  | true =>
   rw [ZV,hn] at h
   have g:=r.new false (ds:=ds) hp ((VDs.nl ds hv hn).cold (YX _ hn))
   refine h _ _ _ g ?_
   unfold VD
   exact ⟨p,by rw [←Jb r];exact JQ _ _ _,rfl⟩
theorem ZhU {ds:List D} {xs:List V} {Q:VK} (r:Q9 X.kw c m H) (hv:VDs X.kw H c xs ds) (h:Want X W c H σ (.ok (Yj ds) m) Q):∀p,H p=none→Q (.ref p) (upd H p (.tup xs)):=by
 intro p hp
 have g:Gd X.kw c c m H (upd H p (.tup xs)):=r.lay hp
 exact h c _ _ g (VR (g.vds hv) (SqT.of upd_same))
end
structure WE (X:Cx) (e:Expr) (σ:St) (H:Hp) (Q:VK):Prop where
 go:∀(pins:List (Addr×Obj)) (s:Shared),Inv X pins σ H s→wpAny (model X.prog X.w) X.A (eval e X.env) (EP X pins σ Q) X.xe s
structure WT (X:Cx) (e:Expr) (σ:St) (H:Hp) (Q:Bool→Hp→Prop):Prop where
 go:∀(pins:List (Addr×Obj)) (s:Shared),Inv X pins σ H s→wpAny (model X.prog X.w) X.A (isTrue e X.env (eval e X.env)) (TP X pins σ Q) X.xe s
structure WW (X:Cx) (e:Expr) (σ:St) (H:Hp) (Q:Bool→Hp→Prop):Prop where
 go:∀(whole:Sem Value) (pins:List (Addr×Obj)) (s:Shared),Inv X pins σ H s→wpAny (model X.prog X.w) X.A (isTrue e X.env whole) (TP X pins σ Q) X.xe s
structure WA (X:Cx) (es:List Expr) (σ:St) (H:Hp) (Q:List V→Hp→Prop):Prop where
 go:∀(pos:Pos) (pins:List (Addr×Obj)) (s:Shared),Inv X pins σ H s→wpAny (model X.prog X.w) X.A (spliced (backTo pos (starEach es X.env))) (AP X pins σ Q) X.xe s
structure WSt (X:Cx) (st:Stmt) (D:Ends) (σ:St) (H:Hp):Prop where
 go:∀(pins:List (Addr×Obj)) (s:Shared),Inv X pins σ H s→wpAny (model X.prog X.w) X.A (exec st X.env) (SP X pins D) X.xe s
structure WSs (X:Cx) (st:List Stmt) (D:Ends) (σ:St) (H:Hp):Prop where
 go:∀(pins:List (Addr×Obj)) (s:Shared),Inv X pins σ H s→wpAny (model X.prog X.w) X.A (execs st X.env) (SP X pins D) X.xe s
section
variable {X:Cx} {e:Expr} {es:List Expr} {st:Stmt} {sts:List Stmt} {σ:St} {H:Hp}
theorem Zz:PE X e (WE X e):=⟨fun pins s σ H Q I h=>h.go pins s I⟩
theorem ZaL:PT X e (WT X e):=⟨fun pins s σ H Q I h=>h.go pins s I⟩
theorem ZiF:PW X e (WW X e):=⟨fun w pins s σ H Q I h=>h.go w pins s I⟩
theorem Jc:PA X es (WA X es):=⟨fun pos pins s σ H Q I h=>h.go pos pins s I⟩
theorem Zet:PS X st (WSt X st):=⟨fun pins s σ H D I h=>h.go pins s I⟩
theorem Wx:PSs X sts (WSs X sts):=⟨fun pins s σ H D I h=>h.go pins s I⟩
theorem Z9 {t:TE} (h:PE X e t) {Q:VK} (q:t σ H Q):WE X e σ H Q:=⟨fun pins s I=>h.run pins s σ H Q I q⟩
theorem ZeZ {t:TT} (h:PT X e t) {Q:Bool→Hp→Prop} (q:t σ H Q):WT X e σ H Q:=⟨fun pins s I=>h.run pins s σ H Q I q⟩
theorem Ze0 {t:TT} (h:PW X e t) {Q:Bool→Hp→Prop} (q:t σ H Q):WW X e σ H Q:=⟨fun w pins s I=>h.run w pins s σ H Q I q⟩
theorem ZeX {t:TA} (h:PA X es t) {Q:List V→Hp→Prop} (q:t σ H Q):WA X es σ H Q:=⟨fun pos pins s I=>h.run pos pins s σ H Q I q⟩
theorem JV {t:TS} (h:PS X st t) {D:Ends} (q:t D σ H):WSt X st D σ H:=⟨fun pins s I=>h.run pins s σ H D I q⟩
theorem Zc1 {t:TS} (h:PSs X sts t) {D:Ends} (q:t D σ H):WSs X sts D σ H:=⟨fun pins s I=>h.run pins s σ H D I q⟩
theorem WE.mono {Q Q':VK} (h:WE X e σ H Q) (hq:∀v H',Q v H'→Q' v H'):WE X e σ H Q':=⟨fun pins s I=>thn (h.go pins s I) fun u s' ⟨v,H',I',r,q⟩=>⟨v,H',I',r,hq v H' q⟩⟩
theorem WE.frz {Q:VK} (h:WE X e σ H (QF Q)):WE X e σ H Q:=⟨fun pins s I=>thn (h.go pins s I) fun u s' q=>EP.frz q⟩
theorem WA.mono {Q Q':List V→Hp→Prop} (h:WA X es σ H Q) (hq:∀v H',Q v H'→Q' v H'):WA X es σ H Q':=⟨fun pos pins s I=>thn (h.go pos pins s I) fun u s' ⟨v,H',I',r,q⟩=>⟨v,H',I',r,hq v H' q⟩⟩
theorem WT.mono {Q Q':Bool→Hp→Prop} (h:WT X e σ H Q) (hq:∀v H',Q v H'→Q' v H'):WT X e σ H Q':=⟨fun pins s I=>thn (h.go pins s I) fun u s' ⟨H',I',q⟩=>⟨H',I',hq u H' q⟩⟩
end
def DE (X:Cx) (W:WX) (e:Expr) (f:FE):Prop:=∀(c:Anc) (ρ:Rho) (m:Store) (σ:St) (H:Hp) (Q:VK),Q9 X.kw c m H→Slo X.kw H c ρ σ→Want X W c H σ (f ρ m) Q→WE X e σ H Q
def DT (X:Cx) (W:WX) (e:Expr) (f:Rho→Store→Res Bool):Prop:=∀(c:Anc) (ρ:Rho) (m:Store) (σ:St) (H:Hp) (Q:Bool→Hp→Prop),Q9 X.kw c m H→Slo X.kw H c ρ σ→Df X W c H σ (f ρ m) Q→WT X e σ H Q
def DW (X:Cx) (W:WX) (e:Expr) (f:Rho→Store→Res Bool):Prop:=∀(c:Anc) (ρ:Rho) (m:Store) (σ:St) (H:Hp) (Q:Bool→Hp→Prop),Q9 X.kw c m H→Slo X.kw H c ρ σ→Df X W c H σ (f ρ m) Q→WW X e σ H Q
def DA (X:Cx) (W:WX) (es:List Expr) (f:Rho→Store→Res (List D)):Prop:=∀(c:Anc) (ρ:Rho) (m:Store) (σ:St) (H:Hp) (Q:List V→Hp→Prop),Q9 X.kw c m H→Slo X.kw H c ρ σ→qdN X W c H σ (f ρ m) Q→WA X es σ H Q
section
variable {X:Cx} {W:WX} {a b e:Expr} {es:List Expr} {fa fb f:FE} {pos:Pos} {c:Anc} {ρ:Rho} {m:Store} {σ:St} {H:Hp}
/-- first a,then on -/
theorem DE.then_ {β:Type} {k:D→Store→Res β} {WB:Anc→Hp→Res β→Prop} {Q:VK} (h:DE X W a fa) (r:Q9 X.kw c m H) (s:Slo X.kw H c ρ σ) (hb:WB c H ((fa ρ m).bind k))
  (hs:∀c H,WB c H .stuck→False) (he:∀c H x m1,WB c H (.exc x m1)→∀c' cls dd H',Gd X.kw c c' m1 H H'→qrz X.kw H' c' x cls dd→W cls dd σ H') (hsh:∀{c c':Anc} {H H':Hp} {m':Store} {r:Res β},Gd X.kw c c' m' H H'→WB c H r→WB c' H' r)
  (q:∀d m1 c1 v H1,Q9 X.kw c1 m1 H1→Slo X.kw H1 c1 ρ σ→Gd X.kw c c1 m1 H H1→VD X.kw H1 c1 v d→WB c1 H1 (k d m1)→Q v H1):WE X a σ H Q:=by
 refine h c ρ m σ H Q r s ?_
 cases e:fa ρ m with
 | ok d m1 =>
  rw [e] at hb
  exact fun c1 v H1 g hv=>q d m1 c1 v H1 g.rel (g.slots s) g hv (hsh g hb)
 | exc x m1 =>
  rw [e] at hb
  exact he c H x m1 hb
 | stuck =>
  rw [e] at hb
  exact hs c H hb
theorem DE.HW {k:D→Store→Res D} {Q Q':VK} (h:DE X W a fa) (r:Q9 X.kw c m H) (s:Slo X.kw H c ρ σ) (hb:Want X W c H σ ((fa ρ m).bind k) Q')
  (q:∀d m1 c1 v H1,Q9 X.kw c1 m1 H1→Slo X.kw H1 c1 ρ σ→Gd X.kw c c1 m1 H H1→VD X.kw H1 c1 v d→Want X W c1 H1 σ (k d m1) Q'→Q v H1):WE X a σ H Q :=
 h.then_ (WB:=fun c H r=>Want X W c H σ r Q') r s hb (fun _ _ z=>z) (fun _ _ _ _ z=>z) (fun g z=>z.shift g) q
theorem DE.qv0 {k:D→Store→Res (List D)} {Q:VK} {Q':List V→Hp→Prop} (h:DE X W a fa) (r:Q9 X.kw c m H) (s:Slo X.kw H c ρ σ) (hb:qdN X W c H σ ((fa ρ m).bind k) Q')
  (q:∀d m1 c1 v H1,Q9 X.kw c1 m1 H1→Slo X.kw H1 c1 ρ σ→Gd X.kw c c1 m1 H H1→VD X.kw H1 c1 v d→qdN X W c1 H1 σ (k d m1) Q'→Q v H1):WE X a σ H Q :=
 h.then_ (WB:=fun c H r=>qdN X W c H σ r Q') r s hb (fun _ _ z=>z) (fun _ _ _ _ z=>z) (fun g z=>z.shift g) q
theorem DE.quK {k:D→Store→Res Bool} {Q:VK} {Q':Bool→Hp→Prop} (h:DE X W a fa) (r:Q9 X.kw c m H) (s:Slo X.kw H c ρ σ) (hb:Df X W c H σ ((fa ρ m).bind k) Q')
  (q:∀d m1 c1 v H1,Q9 X.kw c1 m1 H1→Slo X.kw H1 c1 ρ σ→Gd X.kw c c1 m1 H H1→VD X.kw H1 c1 v d→Df X W c1 H1 σ (k d m1) Q'→Q v H1):WE X a σ H Q :=
 h.then_ (WB:=fun c H r=>Df X W c H σ r Q') r s hb (fun _ _ z=>z) (fun _ _ _ _ z=>z) (fun g z=>z.shift g) q
theorem DA.HW {fl:Rho→Store→Res (List D)} {k:List D→Store→Res D} {Q:List V→Hp→Prop} {Q':VK} (h:DA X W es fl) (r:Q9 X.kw c m H) (s:Slo X.kw H c ρ σ) (hb:Want X W c H σ ((fl ρ m).bind k) Q')
  (q:∀d m1 c1 v H1,Q9 X.kw c1 m1 H1→Slo X.kw H1 c1 ρ σ→Gd X.kw c c1 m1 H H1→VDs X.kw H1 c1 v d→Want X W c1 H1 σ (k d m1) Q'→Q v H1):WA X es σ H Q:=by
 refine h c ρ m σ H Q r s ?_
 cases e:fl ρ m with
 | ok d m1 =>
  rw [e] at hb
  exact fun c1 v H1 g hv=>q d m1 c1 v H1 g.rel (g.slots s) g hv (Want.shift g hb)
 | exc x m1=>rw [e] at hb;exact hb
 | stuck=>rw [e] at hb;exact hb
theorem DA.qv0 {fl:Rho→Store→Res (List D)} {k:List D→Store→Res (List D)} {Q:List V→Hp→Prop} {Q':List V→Hp→Prop} (h:DA X W es fl) (r:Q9 X.kw c m H) (s:Slo X.kw H c ρ σ) (hb:qdN X W c H σ ((fl ρ m).bind k) Q')
  (q:∀d m1 c1 v H1,Q9 X.kw c1 m1 H1→Slo X.kw H1 c1 ρ σ→Gd X.kw c c1 m1 H H1→VDs X.kw H1 c1 v d→qdN X W c1 H1 σ (k d m1) Q'→Q v H1):WA X es σ H Q:=by
 refine h c ρ m σ H Q r s ?_
 cases e:fl ρ m with
 | ok d m1 =>
  rw [e] at hb
  exact fun c1 v H1 g hv=>q d m1 c1 v H1 g.rel (g.slots s) g hv (qdN.shift g hb)
 | exc x m1=>rw [e] at hb;exact hb
 | stuck=>rw [e] at hb;exact hb
theorem DT.HW {ft:Rho→Store→Res Bool} {k:Bool→Store→Res D} {Q:Bool→Hp→Prop} {Q':VK} (h:DT X W a ft) (r:Q9 X.kw c m H) (s:Slo X.kw H c ρ σ) (hb:Want X W c H σ ((ft ρ m).bind k) Q')
  (q:∀d m1 c1 H1,Q9 X.kw c1 m1 H1→Slo X.kw H1 c1 ρ σ→Gd X.kw c c1 m1 H H1→Want X W c1 H1 σ (k d m1) Q'→Q d H1):WT X a σ H Q:=by
 refine h c ρ m σ H Q r s ?_
 cases e:ft ρ m with
 | ok d m1 =>
  rw [e] at hb
  exact fun c1 H1 g=>q d m1 c1 H1 g.rel (g.slots s) g (Want.shift g hb)
 | exc x m1=>rw [e] at hb;exact hb
 | stuck=>rw [e] at hb;exact hb
theorem DT.quK {ft:Rho→Store→Res Bool} {k:Bool→Store→Res Bool} {Q Q':Bool→Hp→Prop} (h:DT X W a ft) (r:Q9 X.kw c m H) (s:Slo X.kw H c ρ σ) (hb:Df X W c H σ ((ft ρ m).bind k) Q')
  (q:∀d m1 c1 H1,Q9 X.kw c1 m1 H1→Slo X.kw H1 c1 ρ σ→Gd X.kw c c1 m1 H H1→Df X W c1 H1 σ (k d m1) Q'→Q d H1):WT X a σ H Q:=by
 refine h c ρ m σ H Q r s ?_
 cases e:ft ρ m with
 | ok d m1 =>
  rw [e] at hb
  exact fun c1 H1 g=>q d m1 c1 H1 g.rel (g.slots s) g (Df.shift g hb)
 | exc x m1=>rw [e] at hb;exact hb
 | stuck=>rw [e] at hb;exact hb
def cE (d:PyData):FE:=fun _ m => .ok (.p d) m
theorem Zj {i:Int} {j:Nat}:DE X W (.Constant (.int i) j pos) (cE (.int i)):=fun c ρ m σ H Q r s h=>Z9 pe_int (h.now r (VD.int.mpr rfl))
theorem J5 {i:Bool} {j:Nat}:DE X W (.Constant (.bool i) j pos) (cE (.bool i)):=fun c ρ m σ H Q r s h=>Z9 pe_bl (h.now r (VD.bl.mpr rfl))
theorem ZfD {j:Nat}:DE X W (.Constant .none j pos) (cE .none):=fun c ρ m σ H Q r s h=>Z9 pe_non (h.now r (VD.non.mpr rfl))
theorem J9 {x:Str} {j:Nat}:DE X W (.Constant (.str x) j pos) (cE (.str x)):=fun c ρ m σ H Q r s h=>Z9 pe_str (h.now r (VD.str.mpr rfl))
def vE (i:Nat):FE:=fun ρ m=>match ρ[i]? with
 | some (some d) => .ok d m
 | _ => .stuck
theorem Ze (i:Nat) {x:Str} (hN:X.N[i]?=some x:=by rfl) (hv:Vis X.env.scope x:=by first | exact Or.inl rfl | exact Or.inr (Or.inl rfl) | exact Or.inr (Or.inr rfl)) (hd:(x == ("__debug__":Str))=false:=by decide)
  (hcd:(x == ("__classdict__":Str))=false:=by decide):DE X W (.Name x pos) (vE i):=fun c ρ m σ H Q r s h=>by
 unfold vE at h
 cases e:ρ[i]? with
 | none=>rw [e] at h;exact h.elim
 | some o =>
  cases o with
  | none=>rw [e] at h;exact h.elim
  | some d =>
   rw [e] at h
   obtain ⟨v,h1,h2⟩:=s.at_ i d e
   exact Z9 (pe_var hN hv hd hcd) ⟨v,h1,h.now r h2⟩
def tyE (n:String):FE:=fun _ m => .ok (.ty n) m
theorem Kg {x:Str} {n:String} (hg:Gl X x) (hm:X.mg x=none) (hv:bootBuiltins x=some (.type n)) (hn:x≠"__name__":=by decide) (hd:(x == ("__debug__":Str))=false:=by decide):DE X W (.Name x pos) (tyE n):=fun c ρ m σ H Q rr s h =>
 Z9 (pe_bltn hg hm hv (v := .ty n) rfl hn hd) (h.now rr (by unfold VD;rfl))
def Zb:Rho→Store→Res (List D):=fun _ m => .ok [] m
def Za (f:FE) (g:Rho→Store→Res (List D)):Rho→Store→Res (List D):=fun ρ m=>(f ρ m).bind fun d m1=>(g ρ m1).bind fun ds m2 => .ok (d::ds) m2
theorem Zg:DA X W [] Zb:=fun c ρ m σ H Q r s h=>ZeX pa_nil (h c [] H (Gd.refl r) (by unfold VDs;rfl))
theorem Zfu {g:Rho→Store→Res (List D)} (ha:DE X W e f) (hr:DA X W es g) (hs:starEach (e::es) X.env=(false,eval e X.env)::starEach es X.env:=by rfl):DA X W (e::es) (Za f g):=fun c ρ m σ H Q r s h =>
 ZeX (pa_cons Zz Jc hs) (ha.qv0 r s h fun d m1 c1 v H1 r1 s1 g1 h1 w1=>hr.qv0 r1 s1 w1 fun ds m2 c2 vs H2 r2 s2 g2 h2 w2 =>
  w2 c2 _ H2 (Gd.refl r2) (by unfold VDs;exact ⟨v,vs,rfl,g2.vd h1,h2⟩))
def U3 (g:Rho→Store→Res (List D)):FE:=fun ρ m=>(g ρ m).bind fun ds m1=>if ds.length≤sizeLine then .ok (Yj ds) m1 else .stuck
theorem Zdj {g:Rho→Store→Res (List D)} {x1:Nat} (h:DA X W es g):DE X W (.Tuple es x1 pos) (U3 g):=fun c ρ m σ H Q r s w =>
 Z9 (pe_tup Jc) (h.HW r s w fun ds m1 c1 vs H1 r1 s1 g1 h1 w1=>by
  by_cases hl:ds.length≤sizeLine
  ·rw [if_pos hl] at w1
   exact ⟨by rw [h1.length];exact hl,ZhU r1 h1 w1⟩
  ·rw [if_neg hl] at w1
   exact w1.elim)
def Zo (z:Md) (g:Rho→Store→Res (List D)):FE:=fun ρ m=>(g ρ m).bind fun ds m1=>if ds.length≤sizeLine then ZV z ds m1 else .stuck
theorem ZC (z:Md) {g:Rho→Store→Res (List D)} (h:DA X W es g):DE X W (.List es pos) (Zo z g):=fun c ρ m σ H Q r s w =>
 WE.frz (Z9 (pe_lst Jc) (h.HW r s w fun ds m1 c1 vs H1 r1 s1 g1 h1 w1=>by
  by_cases hl:ds.length≤sizeLine
  ·rw [if_pos hl] at w1
   exact ⟨by rw [h1.length];exact hl,ZhT r1 h1 w1⟩
  ·rw [if_neg hl] at w1
   exact w1.elim))
end
end L2.Dn
namespace L2.Dn
open PySem PySem.Spec PyProof.Rows L2
abbrev OD:=Option (D×Store)
def lift:OD→Res D
 | some (d,m) => .ok d m
 | none => .stuck
/-- d,m is wanted behind c,H -/
def XF (K:KW) (c:Anc) (H:Hp) (o:OD) (Q:VK):Prop:=match o with
 | some (d,m')=>∀c' v H',Gd K c c' m' H H'→VD K H' c' v d→Q v H'
 | none=>False
theorem Want.o {X:Cx} {W:WX} {c:Anc} {H:Hp} {σ:St} {o:OD} {Q:VK} (h:Want X W c H σ (lift o) Q):XF X.kw c H o Q:=by
 cases o with
 | none=>exact h
 | some p=>exact h
theorem XF.now {K:KW} {c:Anc} {H:Hp} {m:Store} {Q:VK} {v:V} {d:D} (r:Q9 K c m H) (h:XF K c H (some (d,m)) Q) (hv:VD K H c v d):Q v H:=h c v H (Gd.refl r) hv
def YW:Md→List D→Store→OD
 | .z,xs,m=>some (Zh xs,m)
 | .l,xs,m=>if nxs xs then some (.cell (m.next true),m.push (.lst xs) true) else none
 | .g,xs,m=>if nls xs then some (.cell (m.next false),m.push (.lst xs) false) else none
theorem ZaD {K:KW} {c:Anc} {H:Hp} {m:Store} {z:Md} {ds:List D} {xs:List V} {Q:VK} (r:Q9 K c m H) (hv:VDs K H c xs ds) (h:XF K c H (YW z ds m) Q):∀p,H p=none→QF Q (.ref p) (upd H p (.lst xs)):=by
 intro p hp
 cases z with
 | z =>
  right
  refine ⟨p,_,rfl,upd_same,trivial,fun o=>?_⟩
  rw [upd_upd]
  have g:Gd K c c m H (upd H p (.frz o (.lst xs))):=r.lay hp
  exact h c _ _ g (ZbU (g.vds hv) (.inl ⟨o,upd_same⟩))
 | l =>
  left
  cases hn:nxs ds with
  | false=>rw [YW,hn] at h;exact h.elim
  | true =>
   rw [YW,hn] at h
   have g:=r.new true (ds:=ds) hp (hv.cold hn)
   refine h _ _ _ g ?_
   unfold VD
   exact ⟨p,by rw [←Jb r];exact JQ _ _ _,rfl⟩
 | g =>
  left
  cases hn:nls ds with
  | false=>rw [YW,hn] at h;exact h.elim
  | true =>
   rw [YW,hn] at h
   have g:=r.new false (ds:=ds) hp ((VDs.nl ds hv hn).cold (YX _ hn))
   refine h _ _ _ g ?_
   unfold VD
   exact ⟨p,by rw [←Jb r];exact JQ _ _ _,rfl⟩
theorem Zea {K:KW} {c:Anc} {H:Hp} {m:Store} {ds:List D} {xs:List V} {Q:VK} (r:Q9 K c m H) (hv:VDs K H c xs ds) (h:XF K c H (some (Yj ds,m)) Q):∀p,H p=none→Q (.ref p) (upd H p (.tup xs)):=by
 intro p hp
 have g:Gd K c c m H (upd H p (.tup xs)):=r.lay hp
 exact h c _ _ g (VR (g.vds hv) (SqT.of upd_same))
def rOf (K:KW) (g:D→D→Store→OD):R2:=fun x y H Q=>∃c m dx dy,Q9 K c m H∧VD K H c x dx∧VD K H c y dy∧XF K c H (g dx dy m) Q
def Jd (K:KW) (g:List D→Store→OD):List V→Hp→VK→Prop:=fun xs H Q=>∃c m ds,Q9 K c m H∧VDs K H c xs ds∧XF K c H (g ds m) Q
def Zez (K:KW) (g:D→List D→Store→OD):V→List V→Hp→VK→Prop:=fun x xs H Q=>∃c m dx ds,Q9 K c m H∧VD K H c x dx∧VDs K H c xs ds∧XF K c H (g dx ds m) Q
def Je (K:KW) (g:D→Option Int→Option Int→Store→OD):V→Option Int→Option Int→Hp→VK→Prop:=fun x lo hi H Q=>∃c m dx,Q9 K c m H∧VD K H c x dx∧XF K c H (g dx lo hi m) Q
section
variable {X:Cx} {W:WX} {a b e e3:Expr} {es:List Expr} {fa fb fc f:FE} {pos:Pos} {c:Anc} {ρ:Rho} {m:Store} {σ:St} {H:Hp}
theorem OpR.by_ {fn:Value→Value→Sem Value} {r r':R2} (ho:OpR X fn r) (h:∀x y H Q,r' x y H Q→r x y H (QF Q)):OpR X fn r' :=
 fun pins s σ H x y v u Q I rx ry w=>thn (ho pins s σ H x y v u (QF Q) I rx ry (h x y H Q w)) fun _ _ q=>EP.frz q
theorem CallR.by_ {fv:Value} {r r':List V→Hp→VK→Prop} (ho:CallR X fv r) (h:∀x H Q,r' x H Q→r x H (QF Q)):CallR X fv r' :=
 fun pins s σ H x v Q I rx w=>thn (ho pins s σ H x v (QF Q) I rx (h x H Q w)) fun _ _ q=>EP.frz q
theorem MtR.by_ {id:String} {r r':V→List V→Hp→VK→Prop} (ho:MtR X id r) (h:∀x xs H Q,r' x xs H Q→r x xs H (QF Q)):MtR X id r' :=
 fun pins s σ H x xs v us Q I rx rs w=>thn (ho pins s σ H x xs v us (QF Q) I rx rs (h x xs H Q w)) fun _ _ q=>EP.frz q
theorem IxR.by_ {r r':R2} (ho:IxR X r) (h:∀x y H Q,r' x y H Q→r x y H (QF Q)):IxR X r' :=
 fun value slice pins s σ H x y v u Q I rx ry w hs=>thn (ho value slice pins s σ H x y v u (QF Q) I rx ry (h x y H Q w) hs) fun _ _ q=>EP.frz q
theorem SlR.by_ {r r':V→Option Int→Option Int→Hp→VK→Prop} (ho:SlR X r) (h:∀x lo hi H Q,r' x lo hi H Q→r x lo hi H (QF Q)):SlR X r' :=
 fun pins s σ H x v vl vu lo hi sl Q I rx hs pl pu w=>by
  obtain ⟨T,id,h1,h2,h3⟩:=ho pins s σ H x v vl vu lo hi sl (QF Q) I rx hs pl pu (h x lo hi H Q w)
  exact ⟨T,id,h1,h2,thn h3 fun _ _ q=>EP.frz q⟩
def opE (g:D→D→Store→OD) (fa fb:FE):FE:=fun ρ m=>(fa ρ m).bind fun x m1=>(fb ρ m1).bind fun y m2=>lift (g x y m2)
theorem two {g:D→D→Store→OD} (ha:DE X W a fa) (hb:DE X W b fb) {Q:VK} (r:Q9 X.kw c m H) (s:Slo X.kw H c ρ σ) (w:Want X W c H σ (opE g fa fb ρ m) Q):tOp (rOf X.kw g) (WE X a) (WE X b) σ H Q :=
 ha.HW r s w fun x m1 c1 vx H1 r1 s1 g1 h1 w1=>hb.HW r1 s1 w1 fun y m2 c2 vy H2 r2 s2 g2 h2 w2=>⟨c2,m2,x,y,r2,g2.vd h1,h2,w2.o⟩
theorem Zx {op:Operator} {g:D→D→Store→OD} (ho:OpR X (binaryOp op) (rOf X.kw g)) (ha:DE X W a fa) (hb:DE X W b fb):DE X W (.BinOp a op b pos) (opE g fa fb):=fun c ρ m σ H Q r s w =>
 Z9 (pe_op ho Zz Zz) (two ha hb r s w)
theorem Zbf {op:CmpOp} {g:D→D→Store→OD} (ho:OpR X (compareOp op) (rOf X.kw g)) (ha:DE X W a fa) (hb:DE X W b fb) (hm:behindInMarks op b=false:=by first | exact nomark _ | rfl):DE X W (.Compare a [op] [b] pos) (opE g fa fb):=fun c ρ m σ H Q r s w =>
 Z9 (pe_cmpR ho Zz Zz hm) (two ha hb r s w)
theorem Zt {g:D→D→Store→OD} (ho:IxR X (rOf X.kw g)) (ha:DE X W a fa) (hb:DE X W b fb) (hs:PlainIx b:=by exact fun _ _=>rfl):DE X W (.Subscript a b pos) (opE g fa fb):=fun c ρ m σ H Q r s w =>
 Z9 (pe_ix ho Zz Zz hs) (two ha hb r s w)
def WK:Res D→Res Bool
 | .ok (.p (.bool b)) m => .ok b m
 | .ok _ _ => .stuck
 | .exc x m => .exc x m
 | .stuck => .stuck
def Z3 (f:FE):Rho→Store→Res Bool:=fun ρ m=>WK (f ρ m)
/-- what is wanted of a test by a value -/
theorem Df.val {r:Res D} {Q:Bool→Hp→Prop} (h:Df X W c H σ (WK r) Q):Want X W c H σ r (fun v H'=>∃k,v = .bl k∧Q k H'):=by
 unfold WK at h
 split at h
 ·intro c' v H' g hv
  exact ⟨_,VD.bl.mp hv,h c' H' g⟩
 ·exact h.elim
 ·exact h
 ·exact h.elim
theorem Vc {op:CmpOp} {g:D→D→Store→OD} (ho:OpR X (compareOp op) (rOf X.kw g)) (ha:DE X W a fa) (hb:DE X W b fb) (hm:behindInMarks op b=false:=by first | exact nomark _ | rfl):DT X W (.Compare a [op] [b] pos) (Z3 (opE g fa fb)):=fun c ρ m σ H Q r s w =>
 ZeZ (pt_cmpR ho Zz Zz hm) (two ha hb r s w.val)
def chE (g g':D→D→Store→OD) (fa fb fc:FE):FE:=fun ρ m=>(fa ρ m).bind fun x m1=>(fb ρ m1).bind fun y m2=>(lift (g x y m2)).bind fun t m3=>match t with
 | .p (.bool true)=>(fc ρ m3).bind fun z m4=>lift (g' y z m4)
 | .p (.bool false) => .ok (.p (.bool false)) m3
 | _ => .stuck
def unE (g:D→Store→OD) (fa:FE):FE:=fun ρ m=>(fa ρ m).bind fun x m1=>lift (g x m1)
def Za4 (f g:Rho→Store→Res Bool):Rho→Store→Res Bool:=fun ρ m=>(f ρ m).bind fun b m1=>if b then g ρ m1 else .ok false m1
def orT (f g:Rho→Store→Res Bool):Rho→Store→Res Bool:=fun ρ m=>(f ρ m).bind fun b m1=>if b then .ok true m1 else g ρ m1
def JM (f:Rho→Store→Res Bool):Rho→Store→Res Bool:=fun ρ m=>(f ρ m).bind fun b m1 => .ok (!b) m1
variable {ft gt:Rho→Store→Res Bool} {rest:List Expr}
theorem DW.dt (h:DW X W e ft):DT X W e ft:=fun c ρ m σ H Q r s w => .mk fun pins st I=>(h c ρ m σ H Q r s w).go _ pins st I
theorem Zdo (h:DT X W a ft):DW X W (.BoolOp .Or [a] pos) ft:=fun c ρ m σ H Q r s w=>Ze0 (pw_or1 ZaL) (h c ρ m σ H Q r s w)
theorem Zdn (h:DT X W a ft) (h2:DW X W (.BoolOp .Or (b::rest) pos) gt):DW X W (.BoolOp .Or (a::b::rest) pos) (orT ft gt):=fun c ρ m σ H Q r s w =>
 Ze0 (pw_or ZaL ZiF) (h.quK r s w fun k m1 c1 H1 r1 s1 g1 w1=>by
  cases k with
  | true=>rw [if_pos rfl];exact w1 c1 H1 (Gd.refl r1)
  | false=>rw [if_neg Bool.false_ne_true];exact h2 c1 ρ m1 σ H1 Q r1 s1 w1)
theorem Kw (h:DT X W a ft):DT X W (.UnaryOp .Not a pos) (JM ft):=fun c ρ m σ H Q r s w =>
 ZeZ (pt_not ZaL) (h.quK r s w fun k m1 c1 H1 r1 s1 g1 w1=>w1 c1 H1 (Gd.refl r1))
/-- truth of a datum -/
def ZaT:D→Store→Option Bool
 | .p .none,_=>some false
 | .p (.bool b),_=>some b
 | .p (.int i),_=>some (i != 0)
 | .p (.str x),_=>if x.length≤sizeLine then some ((x.length:Int) != 0) else none
 | .p (.tuple ds),_=>some (!ds.isEmpty)
 | .tup ds,_=>some (!ds.isEmpty)
 | d,m=>match Ym d m with
  | some xs=>some (!xs.isEmpty)
  | none=>none
theorem ZjY {v:V} {d:D} {k:Bool} (r:Q9 X.kw c m H) (hv:VD X.kw H c v d) (e:ZaT d m=some k):TruV X.K v H k:=by
 have emp:∀{vs:List V} {ds:List D},VDs X.kw H c vs ds→(!ds.isEmpty)=!vs.isEmpty:=fun {vs ds} h=>by
  have:=h.length
  cases vs <;> cases ds <;> simp at this <;> rfl
 unfold ZaT at e
 split at e
 ·cases VD.non.mp hv;cases e;rfl
 ·cases VD.bl.mp hv;cases e;rfl
 ·cases VD.int.mp hv;cases e;rfl
 ·cases VD.str.mp hv
  split at e
  ·rename_i h;cases e;exact ⟨h,rfl⟩
  ·cases e
 ·rename_i ds
  obtain ⟨a,vs,h1,h2,h3⟩:=Jg (ds:=ds.map D.p) hv rfl
  subst h1
  cases e
  refine .inr (.inl ⟨vs,h2,?_⟩)
  rw [←emp h3]
  cases ds <;> rfl
 ·rename_i ds
  obtain ⟨a,vs,h1,h2,h3⟩:=Jg (ds:=ds) hv rfl
  subst h1
  cases e
  exact .inr (.inl ⟨vs,h2,emp h3⟩)
 ·split at e
  ·rename_i xs h
   obtain ⟨a,vs,h1,h2,h3⟩:=YS r hv h
   subst h1
   cases e
   exact .inl ⟨vs,RdL.sq h2,emp h3⟩
  ·cases e
theorem ZfE {op:BoolOp} (h:DE X W a fa):DE X W (.BoolOp op [a] pos) fa:=fun c ρ m σ H Q r s w=>Z9 (pe_one Zz) (h c ρ m σ H Q r s w)
def ifE (t:Rho→Store→Res Bool) (fa fb:FE):FE:=fun ρ m=>(t ρ m).bind fun k m1=>if k then fa ρ m1 else fb ρ m1
def Zf (g:List D→Store→OD) (fl:Rho→Store→Res (List D)):FE:=fun ρ m=>(fl ρ m).bind fun ds m1=>lift (g ds m1)
variable {fl:Rho→Store→Res (List D)} {x:Str} {p:Pos}
theorem Zy {id:String} {g:List D→Store→OD} (hc:CallR X (.builtin id) (Jd X.kw g)) (hg:Gl X x) (hm:X.mg x=none) (hv:bootBuiltins x=some (.builtin id)) (ha:DA X W (e::es) fl) (hn:x≠"__name__":=by decide) (hdb:(x == ("__debug__":Str))=false:=by decide)
  (he:starEach (e::es) X.env=(false,eval e X.env)::starEach es X.env:=by rfl) (hpl:(backTo pos (starEach es X.env)).any (·.1)=false:=by rfl):DE X W (.Call (.Name x p) (e::es) [] pos) (Zf g fl):=fun c ρ m σ H Q r s w =>
 Z9 (pe_callB hc hg hm hv Jc hn hdb he hpl) (ha.HW r s w fun ds m1 c1 vs H1 r1 s1 g1 h1 w1=>⟨c1,m1,ds,r1,h1,w1.o⟩)
theorem Jm {T:String} {g:List D→Store→OD} (hc:CallR X (.type T) (Jd X.kw g)) (hg:Gl X x) (hm:X.mg x=none) (hv:bootBuiltins x=some (.type T)) (ha:DA X W (e::es) fl) (hn:x≠"__name__":=by decide) (hdb:(x == ("__debug__":Str))=false:=by decide)
  (he:starEach (e::es) X.env=(false,eval e X.env)::starEach es X.env:=by rfl) (hpl:(backTo pos (starEach es X.env)).any (·.1)=false:=by rfl):DE X W (.Call (.Name x p) (e::es) [] pos) (Zf g fl):=fun c ρ m σ H Q r s w =>
 Z9 (pe_callTy hc hg hm hv Jc hn hdb he hpl) (ha.HW r s w fun ds m1 c1 vs H1 r1 s1 g1 h1 w1=>⟨c1,m1,ds,r1,h1,w1.o⟩)
/-- the type that a method is looked up in -/
def JF (T:String):D→Store→Bool
 | .p (.str _),_=>T == "str"
 | .p (.int _),_=>T == "int"
 | d,m=>T == "list" && (Ym d m).isSome
theorem Zg8 {T:String} {d:D} {v:V} (r:Q9 X.kw c m H) (hv:VD X.kw H c v d) (e:JF T d m=true):tyV X.K T v H:=by
 unfold JF at e
 split at e
 ·cases VD.str.mp hv;exact beq_iff_eq.mp e
 ·cases VD.int.mp hv;exact beq_iff_eq.mp e
 ·rw [Bool.and_eq_true] at e
  obtain ⟨xs,q⟩:=Option.isSome_iff_exists.mp e.2
  obtain ⟨a,vs,h1,h2,h3⟩:=YS r hv q
  subst h1
  exact .inl ⟨beq_iff_eq.mp e.1,vs,RdL.sq h2⟩
def Wt (T:String) (g:D→List D→Store→OD) (fo:FE) (fl:Rho→Store→Res (List D)):FE:=fun ρ m=>(fo ρ m).bind fun d m1=>if JF T d m1 then (fl ρ m1).bind fun ds m2=>lift (g d ds m2) else .stuck
variable {o:Expr} {fo:FE} {name:Str} {apos cpos:Pos}
theorem Zfy {T id:String} {g:D→List D→Store→OD} (pa:PlainAttrs T) (slot:Slot T name id) (hty:typeOf (.builtin id)=pure (.type "method_descriptor")) (hm:MtR X id (Zez X.kw g)) (ho:DE X W o fo) (ha:DA X W (e::es) fl)
  (hbase:attributeBase o name X.env (eval o X.env)=eval o X.env:=by rfl)
  (hfew:((backTo cpos (starEach (e::es) X.env)).all (fun x=>!x.1) && (backToKw cpos (keywordEach [] X.env)).all (fun x=>x.1.isSome)
   && decide ((e::es).length+([]:List Keyword).length+(if ([]:List Keyword).isEmpty then 0 else 1) < 30))=true:=by rfl)
  (hline:(apos.endLine == cpos.line)=true:=by rfl) (hs:starEach (e::es) X.env=(false,eval e X.env)::starEach es X.env:=by rfl) (hplain:(backTo cpos (starEach es X.env)).any (·.1)=false:=by rfl) :
  DE X W (.Call (.Attribute o name apos) (e::es) [] cpos) (Wt T g fo fl):=fun c ρ m σ H Q r s w =>
 Z9 (pe_bm pa slot hty hm Zz Jc hbase hfew hline hs hplain) (ho.HW r s w fun d m1 c1 v H1 r1 s1 g1 h1 w1=>by
  cases q:JF T d m1 with
  | false=>rw [q] at w1;exact w1.elim
  | true =>
   rw [q] at w1
   exact ⟨Zg8 r1 h1 q,ha.HW r1 s1 w1 fun ds m2 c2 vs H2 r2 s2 g2 h2 w2=>⟨c2,m2,d,ds,r2,g2.vd h1,h2,w2.o⟩⟩)
def FO:=Rho→Store→Res (Option Int)
def noO:FO:=fun _ m => .ok none m
def someO (f:FE):FO:=fun ρ m=>(f ρ m).bind fun d m1=>match d with
 | .p (.int i) => .ok (some i) m1
 | _ => .stuck
def slE (g:D→Option Int→Option Int→Store→OD) (fa:FE) (fl fh:FO):FE:=fun ρ m=>(fa ρ m).bind fun d m1=>(fl ρ m1).bind fun lo m2=>(fh ρ m2).bind fun hi m3=>lift (g d lo hi m3)
/-- a slice's part -/
def DO (X:Cx) (W:WX) (e:Option Expr) (f:FO):Prop:=∀{c:Anc} {ρ:Rho} {m:Store} {σ:St} {H:Hp} {Q:VK} {k:Option Int→Store→Res D} {R:Option Int→Hp→Prop},Q9 X.kw c m H→Slo X.kw H c ρ σ→Want X W c H σ ((f ρ m).bind k) Q →
 (∀i m1 c1 H1,Q9 X.kw c1 m1 H1→Slo X.kw H1 c1 ρ σ→Gd X.kw c c1 m1 H H1→Want X W c1 H1 σ (k i m1) Q→R i H1)→∃t,PO X e t∧t σ H R
theorem ZfI:DO X W none noO:=fun {c ρ m σ H Q k R} r s w q=>⟨_,po_none,q none m c H r s (Gd.refl r) w⟩
theorem ZfJ (h:DE X W e f):DO X W (some e) (someO f):=fun {c ρ m σ H Q k R} r s w q=>by
 refine ⟨_,po_some Zz,?_⟩
 have w':Want X W c H σ ((f ρ m).bind fun d m1=>match d with | .p (.int i)=>k (some i) m1 | _ => .stuck) Q:=by
  have e1:((someO f ρ m).bind k)=((f ρ m).bind fun d m1=>match d with | .p (.int i)=>k (some i) m1 | _ => .stuck):=by
   unfold someO
   cases f ρ m with
   | ok d m1 =>
    show Res.bind (match d with | .p (.int i)=>Res.ok (some i) m1 | _ => .stuck) k=(match d with | .p (.int i)=>k (some i) m1 | _ => .stuck)
    split <;> rfl
   | exc x m1=>rfl
   | stuck=>rfl
  rw [←e1]
  exact w
 exact h.HW r s w' fun d m1 c1 v H1 r1 s1 g1 h1 w1=>by
  split at w1
  ·exact ⟨_,VD.int.mp h1,q _ m1 c1 H1 r1 s1 g1 w1⟩
  ·exact w1.elim
variable {lo hi:Option Expr} {flo fhi:FO} {p2:Pos}
theorem ZfF {g:D→Option Int→Option Int→Store→OD} (hr:SlR X (Je X.kw g)) (ha:DE X W a fa) (hl:DO X W lo flo) (hh:DO X W hi fhi):DE X W (.Subscript a (.Slice lo hi none p2) pos) (slE g fa flo fhi):=fun c ρ m σ H Q r s w=>by
 -- the parts' readings hang on the state: go by the run
 have PL:PO X lo (fun σ H R=>∀(pins:List (Addr×Obj)) (s:Shared),Inv X pins σ H s→wpAny (model X.prog X.w) X.A (evalPart lo X.env) (fun u s'=>∃o H',Inv X pins σ H' s'∧IsPart u o∧R o H') X.xe s):=⟨fun pins s σ H Q I h=>h pins s I⟩
 have PH:PO X hi (fun σ H R=>∀(pins:List (Addr×Obj)) (s:Shared),Inv X pins σ H s→wpAny (model X.prog X.w) X.A (evalPart hi X.env) (fun u s'=>∃o H',Inv X pins σ H' s'∧IsPart u o∧R o H') X.xe s):=⟨fun pins s σ H Q I h=>h pins s I⟩
 refine Z9 (pe_slice hr Zz PL PH) (ha.HW r s w fun d m1 c1 v H1 r1 s1 g1 h1 w1=>?_)
 intro pins st I
 obtain ⟨t,P,q⟩:=hl (R:=fun l H2=>∀(pins:List (Addr×Obj)) (s:Shared),Inv X pins σ H2 s→wpAny (model X.prog X.w) X.A (evalPart hi X.env) (fun u s'=>∃o H',Inv X pins σ H' s'∧IsPart u o∧Je X.kw g v l o H' Q) X.xe s) r1 s1 w1 (fun i m2 c2 H2 r2 s2 g2 w2=>by
  intro pins2 st2 I2
  obtain ⟨t,P,q⟩:=hh (R:=fun u H3=>Je X.kw g v i u H3 Q) r2 s2 w2 (fun j m3 c3 H3 r3 s3 g3 w3=>⟨c3,m3,d,r3,g3.vd (g2.vd h1),w3.o⟩)
  exact P.run pins2 st2 σ H2 _ I2 q)
 exact P.run pins st σ H1 _ I q
end
end L2.Dn
namespace L2.Dn
open PySem PySem.Spec PyProof.Rows L2
def VP (kvs:List (PyData×D)):D:=match Z8 (kvs.map (·.2)) with
 | some vs => .p (.dict ((kvs.map (·.1)).zip vs))
 | none => .dct (kvs.map (·.1)) (kvs.map (·.2))
theorem Ziz:∀{xs:List D} {ds:List PyData},Z8 xs=some ds→ds.length=xs.length:=fun {xs ds} e=>by rw [YZ e,List.length_map]
theorem ZhJ {K:KW} {H:Hp} {c:Anc} {a:Addr} {o:Obj} {es:List (NestedKey×V×V)} {kvs:List (PyData×D)} (h:qaF K H c es kvs) (f:H a=some (.frz o (gdO K.w a es))):VD K H c (.ref a) (VP kvs):=by
 unfold VP
 split
 ·rename_i vs e
  have e1:=YZ e
  have hv:=h.vd
  rw [e1] at hv
  have hl:vs.length=kvs.length:=by rw [Ziz e,List.length_map]
  have z1:((kvs.map (·.1)).zip vs).map (·.1)=kvs.map (·.1):=List.map_fst_zip (by rw [List.length_map];omega)
  have z2:((kvs.map (·.1)).zip vs).map (·.2)=vs:=List.map_snd_zip (by rw [List.length_map];omega)
  unfold VD
  refine .dG f ?_ h.dp h.nd ?_ ?_
  ·have:=congrArg (List.map nk) z1
   simp only [List.map_map] at this
   rw [h.key]
   exact this.symm
  ·rw [z1];exact h.kd
  ·rw [z2];exact VDs.top hv
 ·unfold VD
  exact ⟨a,o,es,rfl,f,⟨by rw [h.key,List.map_map];rfl,h.dp,h.nd,h.kd⟩,h.vd⟩
def ZdF (x:Cell):Option D:=match x with
 | .lst xs=>some (Zh xs)
 | .dct kvs=>some (VP kvs)
 | .ins C fs=>some (.obj C (fs.map (·.1)) (fs.map (·.2)))
 | .gone=>none
theorem qaF.warm {K:KW} {H:Hp} {c:Anc} {es:List (NestedKey×V×V)} {kvs:List (PyData×D)} (h:qaF K.cold H c es kvs):qaF K H c es kvs:=⟨h.key,h.dp,h.nd,RP.kw (K:=K.cold) (K':=K) rfl rfl h.kd,h.vd.warm⟩
inductive Ib where
 | nx (ρ:Rho) (m:Store)
 | rt (d:Dn.D) (m:Store)
 | bk (ρ:Rho) (m:Store)
 | ct (ρ:Rho) (m:Store)
 | exc (x:Exn) (ρ:Rho) (m:Store)
 | stuck
abbrev FS:=Rho→Store→Ib
def Res.M5 {α:Type} (r:Res α) (ρ:Rho) (k:α→Store→Ib):Ib:=match r with
 | .ok a m=>k a m
 | .exc x m => .exc x ρ m
 | .stuck => .stuck
def Xg (X:Cx) (W:WX) (c:Anc) (H:Hp) (r:Ib) (En:Ends):Prop:=match r with
 | .nx ρ' m'=>∀c' σ' H',Gd X.kw c c' m' H H'→Slo X.kw H' c' ρ' σ'→En.nx σ' H'
 | .rt d m'=>∀c' v H',Gd X.kw c c' m' H H'→VD X.kw H' c' v d→En.rt v H'
 | .bk ρ' m'=>∀c' σ' H',Gd X.kw c c' m' H H'→Slo X.kw H' c' ρ' σ'→En.bk σ' H'
 | .ct ρ' m'=>∀c' σ' H',Gd X.kw c c' m' H H'→Slo X.kw H' c' ρ' σ'→En.ct σ' H'
 | .exc x ρ' m'=>∀c' σ' cls dd H',Gd X.kw c c' m' H H'→Slo X.kw H' c' ρ' σ'→qrz X.kw H' c' x cls dd→W cls dd σ' H'
 | .stuck=>False
def DS (X:Cx) (W:WX) (st:Stmt) (g:FS):Prop:=∀(c:Anc) (ρ:Rho) (m:Store) (σ:St) (H:Hp) (En:Ends),Q9 X.kw c m H→Slo X.kw H c ρ σ→Xg X W c H (g ρ m) En→WSt X st En σ H
def DSs (X:Cx) (W:WX) (st:List Stmt) (g:FS):Prop:=∀(c:Anc) (ρ:Rho) (m:Store) (σ:St) (H:Hp) (En:Ends),Q9 X.kw c m H→Slo X.kw H c ρ σ→Xg X W c H (g ρ m) En→WSs X st En σ H
section
variable {X:Cx} {W:WX} {a b e:Expr} {es:List Expr} {fa fb f:FE} {pos:Pos} {c c':Anc} {ρ:Rho} {m m':Store} {σ:St} {H H':Hp} {En:Ends} {st:Stmt} {sts els:List Stmt} {g gs ge:FS}
theorem Xg.shift {r:Ib} (gd:Gd X.kw c c' m' H H') (h:Xg X W c H r En):Xg X W c' H' r En:=by
 cases r with
 | nx ρ m1=>exact fun c1 v H1 g1 hv=>h c1 v H1 (gd.trans g1) hv
 | rt d m1=>exact fun c1 v H1 g1 hv=>h c1 v H1 (gd.trans g1) hv
 | bk ρ m1=>exact fun c1 v H1 g1 hv=>h c1 v H1 (gd.trans g1) hv
 | ct ρ m1=>exact fun c1 v H1 g1 hv=>h c1 v H1 (gd.trans g1) hv
 | exc x ρ m1=>exact fun c1 σ1 cls dd H1 g1 hs hv=>h c1 σ1 cls dd H1 (gd.trans g1) hs hv
 | stuck=>exact h
theorem DE.BZ {k:Dn.D→Store→Ib} {Q:VK} (h:DE X W a fa) (r:Q9 X.kw c m H) (s:Slo X.kw H c ρ σ) (hb:Xg X W c H ((fa ρ m).M5 ρ k) En)
  (q:∀d m1 c1 v H1,Q9 X.kw c1 m1 H1→Slo X.kw H1 c1 ρ σ→Gd X.kw c c1 m1 H H1→VD X.kw H1 c1 v d→Xg X W c1 H1 (k d m1) En→Q v H1):WE X a σ H Q:=by
 refine h c ρ m σ H Q r s ?_
 cases e:fa ρ m with
 | ok d m1 =>
  rw [e] at hb
  exact fun c1 v H1 g hv=>q d m1 c1 v H1 g.rel (g.slots s) g hv (Xg.shift g hb)
 | exc x m1 =>
  rw [e] at hb
  exact fun c1 cls dd H1 g hv=>hb c1 σ cls dd H1 g (g.slots s) hv
 | stuck=>rw [e] at hb;exact hb
theorem DA.BZ {fl:Rho→Store→Res (List Dn.D)} {k:List Dn.D→Store→Ib} {Q:List V→Hp→Prop} (h:DA X W es fl) (r:Q9 X.kw c m H) (s:Slo X.kw H c ρ σ) (hb:Xg X W c H ((fl ρ m).M5 ρ k) En)
  (q:∀d m1 c1 v H1,Q9 X.kw c1 m1 H1→Slo X.kw H1 c1 ρ σ→Gd X.kw c c1 m1 H H1→VDs X.kw H1 c1 v d→Xg X W c1 H1 (k d m1) En→Q v H1):WA X es σ H Q:=by
 refine h c ρ m σ H Q r s ?_
 cases e:fl ρ m with
 | ok d m1 =>
  rw [e] at hb
  exact fun c1 v H1 g hv=>q d m1 c1 v H1 g.rel (g.slots s) g hv (Xg.shift g hb)
 | exc x m1 =>
  rw [e] at hb
  exact fun c1 cls dd H1 g hv=>hb c1 σ cls dd H1 g (g.slots s) hv
 | stuck=>rw [e] at hb;exact hb
theorem DT.BZ {ft:Rho→Store→Res Bool} {k:Bool→Store→Ib} {Q:Bool→Hp→Prop} (h:DT X W a ft) (r:Q9 X.kw c m H) (s:Slo X.kw H c ρ σ) (hb:Xg X W c H ((ft ρ m).M5 ρ k) En)
  (q:∀d m1 c1 H1,Q9 X.kw c1 m1 H1→Slo X.kw H1 c1 ρ σ→Gd X.kw c c1 m1 H H1→Xg X W c1 H1 (k d m1) En→Q d H1):WT X a σ H Q:=by
 refine h c ρ m σ H Q r s ?_
 cases e:ft ρ m with
 | ok d m1 =>
  rw [e] at hb
  exact fun c1 H1 g=>q d m1 c1 H1 g.rel (g.slots s) g (Xg.shift g hb)
 | exc x m1 =>
  rw [e] at hb
  exact fun c1 cls dd H1 g hv=>hb c1 σ cls dd H1 g (g.slots s) hv
 | stuck=>rw [e] at hb;exact hb
theorem Xg.now {En:Ends} (r:Q9 X.kw c m H) (s:Slo X.kw H c ρ σ) (h:Xg X W c H (.nx ρ m) En):En.nx σ H:=h c σ H (Gd.refl r) s
def ZF:FS:=fun ρ m => .nx ρ m
def Ib.seq (r:Ib) (k:FS):Ib:=match r with
 | .nx ρ m=>k ρ m
 | r=>r
def Zi (g h:FS):FS:=fun ρ m=>(g ρ m).seq h
theorem YQ:DSs X W [] ZF:=fun c ρ m σ H En r s w=>Zc1 pss_nil (w.now r s)
theorem Zw (h1:DS X W st g) (h2:DSs X W sts gs):DSs X W (st::sts) (Zi g gs):=fun c ρ m σ H En r s w=>by
 refine Zc1 (pss_cons Zet Wx) (h1 c ρ m σ H _ r s ?_)
 unfold Zi at w
 cases e:g ρ m with
 | nx ρ1 m1=>rw [e] at w;exact fun c1 σ1 H1 g1 s1=>h2 c1 ρ1 m1 σ1 H1 En g1.rel s1 (Xg.shift g1 w)
 | rt d m1=>rw [e] at w;exact w
 | bk d m1=>rw [e] at w;exact w
 | ct d m1=>rw [e] at w;exact w
 | exc x d m1=>rw [e] at w;exact w
 | stuck=>rw [e] at w;exact w
theorem Z6 (h1:DS X W st g):DSs X W [st] g:=fun c ρ m σ H En r s w=>Zc1 (pss_one Zet) (h1 c ρ m σ H En r s w)
def Vh (f:FE):FS:=fun ρ m=>(f ρ m).M5 ρ fun _ m1 => .nx ρ m1
theorem ZfN (h:DE X W e f) (hs:swapsWith e none pos.line X.env=pure false:=by rfl):DS X W (.Expr e pos) (Vh f):=fun c ρ m σ H En r s w =>
 JV (ps_expr Zz hs) (h.BZ r s w fun d m1 c1 v H1 r1 s1 g1 h1 w1=>w1.now r1 s1)
def retS (f:FE):FS:=fun ρ m=>(f ρ m).M5 ρ fun d m1 => .rt d m1
theorem Yz (h:DE X W e f):DS X W (.Return (some e) pos) (retS f):=fun c ρ m σ H En r s w =>
 JV (ps_ret Zz) (h.BZ r s w fun d m1 c1 v H1 r1 s1 g1 h1 w1=>w1 c1 v H1 (Gd.refl r1) h1)
def ifS (t:Rho→Store→Res Bool) (g h:FS):FS:=fun ρ m=>(t ρ m).M5 ρ fun b m1=>if b then g ρ m1 else h ρ m1
theorem YM {ft:Rho→Store→Res Bool} (h:DT X W e ft) (h1:DSs X W sts gs) (h2:DSs X W els ge):DS X W (.If e sts els pos) (ifS ft gs ge):=fun c ρ m σ H En r s w =>
 JV (ps_if ZaL Wx Wx) (h.BZ r s w fun k m1 c1 H1 r1 s1 g1 w1=>by
  cases k with
  | true=>rw [if_pos rfl];exact h1 c1 ρ m1 σ H1 En r1 s1 w1
  | false=>rw [if_neg Bool.false_ne_true];exact h2 c1 ρ m1 σ H1 En r1 s1 w1)
def Zm (i:Nat) (f:FE):FS:=fun ρ m=>(f ρ m).M5 ρ fun d m1 => .nx (ρ.set i (some d)) m1
theorem Z0 (i:Nat) {x:Str} {pos':Pos} (hN:X.N.Nodup) (he:DE X W e f) (hi:X.N[i]?=some x:=by rfl) (hx:Loc X.env.scope x:=by first | exact Or.inl rfl | exact Or.inr rfl) (hs:swapsWith e (some (.Name x pos')) pos.line X.env=pure false:=by rfl)
  (hf:X.fn x=true∨X.env.scope.names.lookup x=some .local:=by first | exact .inl rfl | exact .inr rfl | assumption):DS X W (.Assign [.Name x pos'] e pos) (Zm i f):=fun c ρ m σ H En r s w =>
 JV (ps_set hN hi hx Zz hs hf) (he.BZ r s w fun d m1 c1 v H1 r1 s1 g1 h1 w1=>w1 c1 _ H1 (Gd.refl r1) (s1.set i h1))
def Zcc (i j:Nat) (fl:Rho→Store→Res (List Dn.D)):FS:=fun ρ m=>(fl ρ m).M5 ρ fun ds m1=>match ds with
 | [d,d'] => .nx ((ρ.set i (some d)).set j (some d')) m1
 | _ => .stuck
theorem VDs.two {K:KW} {vs:List V} {d d':Dn.D} (h:VDs K H c vs [d,d']):∃v v',vs=[v,v']∧VD K H c v d∧VD K H c v' d':=by
 unfold VDs at h
 obtain ⟨v,r,h1,h2,h3⟩:=h
 unfold VDs at h3
 obtain ⟨v',r',h4,h5,h6⟩:=h3
 unfold VDs at h6
 subst h6 h4 h1
 exact ⟨v,v',rfl,h2,h5⟩
theorem VDs.M9 {K:KW} {vs:List V} {d:Dn.D} (h:VDs K H c vs [d]):∃v,vs=[v]∧VD K H c v d:=by
 unfold VDs at h
 obtain ⟨v,r,h1,h2,h3⟩:=h
 unfold VDs at h3
 subst h3 h1
 exact ⟨v,rfl,h2⟩
def Zcb (i j l:Nat) (fl:Rho→Store→Res (List Dn.D)):FS:=fun ρ m=>(fl ρ m).M5 ρ fun ds m1=>match ds with
 | [d,d',d''] => .nx (((ρ.set i (some d)).set j (some d')).set l (some d'')) m1
 | _ => .stuck
structure WG (X:Cx) (tg:Expr) (v:V) (σ:St) (H:Hp) (R:St→Hp→Prop):Prop where
 go:∀(pins:List (Addr×Obj)) (s:Shared) (u:Value),Inv X pins σ H s→RelV v u→wpAny (model X.prog X.w) X.A (assign tg X.env u) (fun _ s'=>∃σ' H',Inv X pins σ' H' s'∧R σ' H') X.xe s
theorem Zcf {tg:Expr}:PG X tg (WG X tg):=⟨fun pins s σ H v u Q I r h=>h.go pins s u I r⟩
theorem ZaW {tg:Expr} {t:TG} {v:V} {R:St→Hp→Prop} (h:PG X tg t) (q:t v σ H R):WG X tg v σ H R:=⟨fun pins s u I r=>h.run pins s σ H v u R I r q⟩
abbrev FG:=Dn.D→Rho→Store→Ib
def DG (X:Cx) (W:WX) (tg:Expr) (ga:FG):Prop:=∀(c:Anc) (ρ:Rho) (m:Store) (σ:St) (H:Hp) (v:V) (d:Dn.D) (En:Ends),Q9 X.kw c m H→Slo X.kw H c ρ σ→VD X.kw H c v d→Xg X W c H (ga d ρ m) En→WG X tg v σ H En.nx
def YD (i:Nat):FG:=fun d ρ m => .nx (ρ.set i (some d)) m
theorem VH (i:Nat) {x:Str} (hN:X.N.Nodup) (hi:X.N[i]?=some x:=by rfl) (hx:Loc X.env.scope x:=by first | exact Or.inl rfl | exact Or.inr rfl) (hf:X.fn x=true∨X.env.scope.names.lookup x=some .local:=by first | exact .inl rfl | exact .inr rfl | assumption):DG X W (.Name x pos) (YD i) :=
 fun c ρ m σ H v d En r s hv w=>ZaW (pg_name hN hi hx hf) (w c _ H (Gd.refl r) (s.set i hv))
/-- several names -/
structure WGs (X:Cx) (ts:List Expr) (vs:List V) (σ:St) (H:Hp) (R:St→Hp→Prop):Prop where
 go:∀(pins:List (Addr×Obj)) (s:Shared) (us:List Value),Inv X pins σ H s→Vals vs us→wpAny (model X.prog X.w) X.A (assignInOrder ((assignEach ts X.env).map (·.2)) us) (fun _ s'=>∃σ' H',Inv X pins σ' H' s'∧R σ' H') X.xe s
theorem Zep {ts:List Expr}:PGs X ts (WGs X ts):=⟨fun pins s σ H v u Q I r h=>h.go pins s u I r⟩
theorem ZeY {ts:List Expr} {t:TGs} {v:List V} {R:St→Hp→Prop} (h:PGs X ts t) (q:t v σ H R):WGs X ts v σ H R:=⟨fun pins s u I r=>h.run pins s σ H v u R I r q⟩
abbrev FGs:=List Dn.D→Rho→Store→Ib
def DGs (X:Cx) (W:WX) (ts:List Expr) (ga:FGs):Prop:=∀(c:Anc) (ρ:Rho) (m:Store) (σ:St) (H:Hp) (v:List V) (d:List Dn.D) (En:Ends),Q9 X.kw c m H→Slo X.kw H c ρ σ→VDs X.kw H c v d→Xg X W c H (ga d ρ m) En→WGs X ts v σ H En.nx
def nilG:FGs:=fun ds ρ m=>match ds with
 | [] => .nx ρ m
 | _ => .stuck
def Jy (g:FG) (h:FGs):FGs:=fun ds ρ m=>match ds with
 | d::r=>(g d ρ m).seq (h r)
 | _ => .stuck
theorem ZfH:DGs X W [] nilG:=fun c ρ m σ H v d En r s hv w=>by
 cases d with
 | nil=>unfold VDs at hv;subst hv;exact ZeY pgs_nil ⟨rfl,w.now r s⟩
 | cons=>exact w.elim
theorem Zdk {ts:List Expr} {g:FG} {h:FGs} (h1:DG X W e g) (h2:DGs X W ts h) (hs:(assignEach (e::ts) X.env).map (·.2)=assign e X.env::(assignEach ts X.env).map (·.2):=by rfl):DGs X W (e::ts) (Jy g h):=fun c ρ m σ H v d En r s hv w=>by
 cases d with
 | nil=>exact w.elim
 | cons d ds =>
  unfold VDs at hv
  obtain ⟨v1,vr,e1,hv1,hvr⟩:=hv
  subst e1
  refine ZeY (pgs_cons Zcf Zep hs) ⟨v1,vr,rfl,?_⟩
  refine h1 c ρ m σ H v1 d { nx:=fun σ' H'=>WGs X ts vr σ' H' En.nx,rt:=En.rt,bk:=En.bk,ct:=En.ct } r s hv1 ?_
  change Xg X W c H ((g d ρ m).seq (h ds)) En at w
  cases q:g d ρ m with
  | nx ρ1 m1=>rw [q] at w;exact fun c1 σ1 H1 g1 s1=>h2 c1 ρ1 m1 σ1 H1 vr ds En g1.rel s1 (g1.vds hvr) (Xg.shift g1 w)
  | rt x m1=>rw [q] at w;exact w
  | bk x m1=>rw [q] at w;exact w
  | ct x m1=>rw [q] at w;exact w
  | exc y x m1=>rw [q] at w;exact w
  | stuck=>rw [q] at w;exact w
def Vv (n:Nat) (h:FGs):FG:=fun d ρ m=>match Yw d with
 | some ds=>if ds.length=n then h ds ρ m else .stuck
 | none => .stuck
theorem ZfG {ts:List Expr} {k n:Nat} {h:FGs} (h1:DGs X W ts h) (hc:X.calm=true:=by rfl) (hn:(assignEach ts X.env).length=n:=by rfl) (hst:(assignEach ts X.env).findIdx? (·.1)=none:=by rfl):DG X W (.Tuple ts k pos) (Vv n h):=fun c ρ m σ H v d En r s hv w=>by
 unfold Vv at w
 cases q:Yw d with
 | none=>rw [q] at w;exact w.elim
 | some ds =>
  rw [q] at w
  obtain ⟨a,vs,e1,h2,h3⟩:=Jg hv q
  change Xg X W c H (if ds.length=n then h ds ρ m else .stuck) En at w
  by_cases hl:ds.length=n
  ·rw [if_pos hl] at w
   exact ZaW (pg_tup hc Zep hn hst) ⟨a,vs,e1,h2,by rw [h3.length];exact hl,h1 c ρ m σ H vs ds En r s h3 w⟩
  ·rw [if_neg hl] at w;exact w.elim
def Yk (f:FE) (g:FG):FS:=fun ρ m=>(f ρ m).M5 ρ fun d m1=>g d ρ m1
theorem Kv {tg:Expr} {g:FG} (he:DE X W e f) (hg:DG X W tg g) (hs:swapsWithSole [tg] e pos.line X.env=pure false:=by rfl) (hw:swappedStores [tg] e X.env=pure none:=by rfl) (h1:(assignEach [tg] X.env).map (·.2)=[assign tg X.env]:=by rfl):DS X W (.Assign [tg] e pos) (Yk f g):=fun c ρ m σ H En r s w =>
 JV (ps_asg Zz Zcf hs hw h1) (he.BZ r s w fun d m1 c1 v H1 r1 s1 g1 h1 w1=>hg c1 ρ m1 σ H1 v d En r1 s1 h1 w1)
/-- o[i] = ..,a list -/
def okIn (d:Dn.D):Ix→Bool
 | .g _=>Dn.nl d
 | .l _=>Dn.nx d
def Y6 (o i d:Dn.D) (m:Store):Option Store:=match o,i with
 | .cell x,.p (.int k)=>match m.at_ x with
  | some (.lst xs)=>match ixN xs.length k with
   | some j=>if okIn d x then some (m.set (.lst (xs.set j d)) x) else none
   | none=>none
  | _=>none
 | _,_=>none
theorem VD.qlL {K:KW} {v:V} {d:Dn.D} {x:Ix} (h:VD K H c v d) (hn:okIn d x=true):VD K.cold H (qlL c x) v d:=by
 cases x with
 | g i=>exact (VD.nl d h hn).cold (Zee d hn)
 | l i=>exact h.cold hn
theorem ZeK {vo vi v:V} {o i d:Dn.D} {m2:Store} {R:Hp→Prop} (r:Q9 X.kw c m H) (ho:VD X.kw H c vo o) (hi:VD X.kw H c vi i) (hd:VD X.kw H c v d) (e:Y6 o i d m=some m2) (q:∀H',Gd X.kw c c m2 H H'→R H'):rSetL vo vi v H R:=by
 unfold Y6 at e
 split at e
 ·rename_i x k
  split at e
  ·rename_i xs hm
   split at e
   ·rename_i j hj
    split at e
    ·rename_i hn
     cases e
     unfold VD at ho
     obtain ⟨a,h1,h2⟩:=ho
     obtain ⟨vs,h3,h4⟩:=r.at_ x a _ h1 hm
     refine ⟨a,vs,k,j,h2,VD.int.mp hi,h3,by rw [h4.length];exact hj,?_⟩
     exact q _ (r.put h1 hm h3 (h4.set (VD.qlL hd hn) j))
    ·cases e
   ·cases e
  ·cases e
 ·cases e
/-- o[i]=v,by data -/
abbrev WL:=Dn.D→Dn.D→Dn.D→Store→Option Store
def ZaO (K:KW) (st:WL):V→V→V→Hp→(Hp→Prop)→Prop:=fun o i v H R=>∃(c:Anc) (m m':Store) (do_ di dd:Dn.D),Q9 K c m H∧VD K H c o do_∧VD K H c i di∧VD K H c v dd∧st do_ di dd m=some m'∧∀H',Gd K c c m' H H'→R H'
theorem ZiQ:PSet X (ZaO X.kw Y6):=fun pins s σ H o i v ov iv u Q I ro ri rv ⟨c,m,m',do_,di,dd,r,h1,h2,h3,e,q⟩ =>
 set_list pins s σ H o i v ov iv u Q I ro ri rv (ZeK r h1 h2 h3 e q)
def Yn (st:WL) (fo fi:FE):FG:=fun d ρ m=>(fo ρ m).M5 ρ fun o m1=>(fi ρ m1).M5 ρ fun i m2=>match st o i d m2 with
 | some m3 => .nx ρ m3
 | none => .stuck
theorem Ks {st:WL} {o i:Expr} {fo fi:FE} (hst:PSet X (ZaO X.kw st)) (ho:DE X W o fo) (hi:DE X W i fi)
  (ha:∀v,assign (.Subscript o i pos) X.env v=(do
   let ov ←holding [v] (eval o X.env)
   let iv ←holding [v,ov] (eval i X.env)
   standAt pos
   holding [v,ov,iv] (setItem ov iv v)
   release [v,ov,iv] []):=by intro _;rfl):DG X W (.Subscript o i pos) (Yn st fo fi):=fun c ρ m σ H v d En r s hv w =>
 ZaW (pg_sub Zz Zz hst ha) (ho.BZ r s w fun x m1 c1 vx H1 r1 s1 g1 h1 w1=>hi.BZ r1 s1 w1 fun y m2 c2 vy H2 r2 s2 g2 h2 w2=>by
  split at w2
  ·rename_i m3 e
   exact ⟨c2,m2,m3,x,y,d,r2,g2.vd h1,h2,g2.vd (g1.vd hv),e,fun H' g3=>w2 c2 σ H' g3 (g3.slots s2)⟩
  ·exact w2.elim)
end
end L2.Dn
namespace L2.Dn
open PySem PySem.Spec PyProof.Rows L2
abbrev EsE:=List (NestedKey×V×V)
def EnR (w:World) (e:NestedKey×V×V) (x:DictEntry):Prop:=x.hash=e.1.hash w∧RelV e.2.1 x.key∧RelV e.2.2 x.val
/-- under one lock,or under two -/
def lk2 (b:Bool) (o:Obj) (u:HO):HO:=if b then .frz o u else u
theorem _root_.L2.Inv.qwL {X:Cx} {pins:List (Addr×Obj)} {σ:St} {H:Hp} {s:Shared} {d:Addr} {o:Obj} {b:Bool} {es:EsE} (I:Inv X pins σ H s) (h:H d=some (.frz o (lk2 b o (gdO X.w d es)))) :
  (d == sysModules)=false∧∃(ens:Array DictEntry) (ep:Nat),o.data = .dict ens ep∧s.heap.DictRaw d ens ep∧ens.size=es.length∧Paired (EnR X.w) es ens.toList:=by
 have z:ObjOk X.prog X.w H s.heap d (.frz o (gdO X.w d es)):=by
  have z:=I.hok d _ h
  cases b with
  | false=>exact z
  | true=>exact z.2
 unfold gdO at z
 obtain ⟨e1,⟨o',ens,ep,h0,h1,h2,h3,h4⟩,_⟩:=z
 rw [e1] at h1
 cases h1
 have l:es.length=ens.toList.length:=Paired.length h4
 exact ⟨h0,ens,ep,h3,⟨o,e1,h2,h3⟩,by simpa using l.symm,h4⟩
theorem ZfZ {w:World} {es:EsE} {ens:Array DictEntry} (p:Paired (EnR w) es ens.toList) {i:Nat} (hi:i < es.length) (hj:i < ens.size):EnR w es[i] ens[i]:=by
 obtain ⟨b,h1,h2⟩:=paired_get p (List.getElem?_eq_getElem hi)
 rw [Array.getElem?_toList,Array.getElem?_eq_getElem hj] at h1
 cases h1
 exact h2
theorem Zdg {o:Obj} {es es':Array DictEntry} {ep ep':Nat} (h:o.data = .dict es ep) (h':o.data = .dict es' ep'):es'=es∧ep'=ep:=by
 have:=h.symm.trans h'
 cases this
 exact ⟨rfl,rfl⟩
/-- the keys -/
def Za1 (w:World) (d:Addr) (o:Obj) (b:Bool) (es:EsE):It :=
 ⟨fun i H=>H d=some (.frz o (lk2 b o (gdO w d es)))∧i < es.length,fun i H x H'=>H'=H∧∃e,es[i]?=some e∧x=e.2.1,fun i H=>H d=some (.frz o (lk2 b o (gdO w d es)))∧es.length≤i⟩
section
variable {P:Program} {w:World} {K:PySem.W.Frag} {tg:Expr} {d:Addr} {o:Obj} {ens:Array DictEntry} {ep:Nat}
theorem Zj2 {es:EsE} {b:Bool} (it:Addr) (hod:o.data = .dict ens ep):Turn P w K tg (Za1 w d o b es) [it] it (fun i h=>h.IsKeyIter it d i es.length ep) where
 mem:=List.mem_singleton.mpr rfl
 obj:=fun i h st b hb=>by
  obtain rfl:=List.mem_singleton.mp hb
  obtain ⟨oi,e1,_,e2⟩:=st
  exact ⟨oi,e1,fun v z=>nomatch (e2.symm.trans z)⟩
 keep:=fun i h h' st k=>st.at fun oi e=>k it (List.mem_singleton.mpr rfl) oi e
 item:=by
  intro X hP hw hK hc i pins s σ H E I hf st hg
  cases hP;cases hw;cases hK
  obtain ⟨q1,q2⟩:=hg
  obtain ⟨f0,f1,f2,f3,f4,f5⟩:=hf it (List.mem_singleton.mpr rfl)
  obtain ⟨z0,ens',ep',z1,z2,z3,z4⟩:=I.qwL q1
  obtain ⟨rfl,rfl⟩:=Zdg hod z1
  have hj:i < ens'.size:=by omega
  have en:=ZfZ z4 q2 hj
  have st':s.heap.IsKeyIter it d i ens'.size ep':=by rw [z3];exact st
  refine wpAny_pyNext_keys_item_raw st' z2 hj fun h1 i1 sb=>?_
  have J:Inv X pins σ H { s with heap:=h1 }:=I.turned (t':=s.toks) (fun b ob hb e=>(sb.2 b hb).trans e) f0 f1 f3 f4 f5
  obtain ⟨oi,e1,e2,e3⟩:=id i1
  exact ⟨_,rfl,go_of (s:={ s with heap:=h1 }) e1 e2 e3 (by decide) ⟨es[i].2.1,H,J,en.2.1,⟨rfl,_,List.getElem?_eq_getElem q2,rfl⟩,by rw [←z3];exact i1,fun b hb=>(hf b hb).1⟩⟩
 done:=by
  intro X hP hw hK hc i pins s σ H E I hf st hg
  cases hP;cases hw;cases hK
  obtain ⟨q1,q2⟩:=hg
  obtain ⟨f0,f1,f2,f3,f4,f5⟩:=hf it (List.mem_singleton.mpr rfl)
  obtain ⟨z0,ens',ep',z1,z2,z3,z4⟩:=I.qwL q1
  obtain ⟨rfl,rfl⟩:=Zdg hod z1
  have st':s.heap.IsKeyIter it d i ens'.size ep':=by rw [z3];exact st
  exact wpAny_pyNext_keys_end_raw (I.ok.hd hc) st' z2 (by omega) fun h1 eb=>⟨rfl,I.turned (t':=s.toks) (fun b ob hb e=>eb b ob hb e) f0 f1 f3 f4 f5⟩
 self:=fun A i s Q E st h=>wpAny_pyIter_keyiter st h
end
def iKg (w:World) (td:TE):TI:=fun σ H R=>td σ H fun x H1=>∃d o b es,x = .ref d∧H1 d=some (.frz o (lk2 b o (gdO w d es)))∧R (Za1 w d o b es) H1
section
variable {X:Cx} {tg e:Expr} {td:TE} {apos cpos:Pos}
theorem Zeq (he:PE X e td):PI X tg e (iKg X.w td):=by
 refine ⟨fun pins s σ H R I h=>thn (he.run pins s σ H _ I h) ?_⟩
 rintro u s1 ⟨x,H1,J,rx,d,o,b,es,rfl,q1,q2⟩
 cases rx
 obtain ⟨z0,ens,ep,z1,z2,z3,z4⟩:=J.qwL q1
 refine wpAny_pyIter_dict_raw z0 z2 (pi_one (tk:=s1.toks) J _ (Zj2 _ z1) ⟨_,Heap.get?_push_size _ rfl,rfl,?_⟩ q2)
 rw [z3] <;> rfl
end
end L2.Dn
namespace L2.Dn
open PySem PySem.Spec PyProof.Rows L2
def ItD (K:KW) (c:Anc) (H:Hp) (J:It) (ds:List D):Prop:=∀(c':Anc) (m':Store) (H':Hp),Pre c c'→Ext H H'→Q9 K c' m' H'→∀i:Nat,
 (∀d,ds[i]?=some d→J.go i H'∧∀x H'',J.yld i H' x H''→Gd K c' c' m' H' H''∧(∀b o,H' b=some o→H'' b=some o)∧VD K H'' c' x d)∧(ds.length≤i→J.stop i H')
structure WI (X:Cx) (tg iter:Expr) (σ:St) (H:Hp) (R:It→Hp→Prop):Prop where
 go:∀(pins:List (Addr×Obj)) (s:Shared),Inv X pins σ H s→wpAny (model X.prog X.w) X.A (eval iter X.env) (fun v s1=>wpAny (model X.prog X.w) X.A (pyIter v) (PIE X pins σ tg R) X.xe s1) X.xe s
def WM (X:Cx) (W:WX) (c:Anc) (H:Hp) (σ:St) (r:Res (List D)) (R:It→Hp→Prop):Prop:=match r with
 | .ok ds m'=>∀c' J H',Gd X.kw c c' m' H H'→ItD X.kw c' H' J ds→R J H'
 | .exc x m'=>∀c' cls dd H',Gd X.kw c c' m' H H'→qrz X.kw H' c' x cls dd→W cls dd σ H'
 | .stuck=>False
abbrev FI:=Rho→Store→Res (List D)
def DI (X:Cx) (W:WX) (tg iter:Expr) (fi:FI):Prop:=∀(c:Anc) (ρ:Rho) (m:Store) (σ:St) (H:Hp) (R:It→Hp→Prop),Q9 X.kw c m H→Slo X.kw H c ρ σ→WM X W c H σ (fi ρ m) R→WI X tg iter σ H R
section
variable {X:Cx} {W:WX} {a b e tg iter:Expr} {es:List Expr} {fa fb f:FE} {pos p:Pos} {c c':Anc} {ρ:Rho} {m m':Store} {σ:St} {H H':Hp}
theorem ZaJ:PI X tg iter (WI X tg iter):=⟨fun pins s σ H R I h=>h.go pins s I⟩
theorem YK {t:TI} {R:It→Hp→Prop} (h:PI X tg iter t) (q:t σ H R):WI X tg iter σ H R:=⟨fun pins s I=>h.run pins s σ H R I q⟩
theorem VDs.at_ {K:KW} {vs:List V} {ds:List D} {i:Nat} {d:D} {v:V} (h:VDs K H c vs ds) (e:ds[i]?=some d) (e2:vs[i]?=some v):VD K H c v d:=by
 obtain ⟨v',h1,h2⟩:=h.get e
 rw [e2] at h1
 cases h1
 exact h2
theorem ZdO {K:KW} {a:Addr} {vs:List V} {ds:List D} (hf:FzL K H a vs) (hv:VDs K H c vs ds):ItD K c H (Itl K a) ds:=fun c' m' H' p ex r i=>by
 have f:=hf.ext ex
 have hv':=VDs.mono ex p _ hv
 refine ⟨fun d e=>?_,fun hl=>⟨vs,f.sq,by rw [hv.length];exact hl⟩⟩
 obtain ⟨v,h1,h2⟩:=hv'.get e
 refine ⟨⟨vs,v,f.sq,h1⟩,fun x H'' y=>?_⟩
 obtain ⟨e1,y⟩:=y
 subst e1
 exact ⟨Gd.refl r,fun _ _ e=>e,hv'.at_ e (y vs f.sq)⟩
theorem ZdP {K:KW} {a:Addr} {vs:List V} {ds:List D} (hf:SqT K H a vs) (hv:VDs K H c vs ds):ItD K c H (Itt K a) ds:=fun c' m' H' p ex r i=>by
 have f:=SqT.ext hf ex
 have hv':=VDs.mono ex p _ hv
 refine ⟨fun d e=>?_,fun hl=>⟨vs,f,by rw [hv.length];exact hl⟩⟩
 obtain ⟨v,h1,h2⟩:=hv'.get e
 refine ⟨⟨vs,v,f,h1⟩,fun x H'' y=>?_⟩
 obtain ⟨e1,y⟩:=y
 subst e1
 exact ⟨Gd.refl r,fun _ _ e=>e,hv'.at_ e (y vs f)⟩
def signs (x:Str):List D:=x.cps.toList.map fun n => .p (.str ⟨#[n]⟩)
theorem Zhb {K:KW} {x:Str}:ItD K c H (Its x) (signs x):=fun c' m' H' p ex r i=>by
 refine ⟨fun d e=>?_,fun hl=>by show x.cps.size≤i;simpa [signs] using hl⟩
 simp only [signs,List.getElem?_map,Option.map_eq_some_iff,Array.getElem?_toList] at e
 obtain ⟨n,h1,h2⟩:=e
 refine ⟨(Array.getElem?_eq_some_iff.mp h1).1,fun v H'' y=>?_⟩
 obtain ⟨e1,n',h3,h4⟩:=y
 rw [h1] at h3
 cases h3
 subst e1 h4 h2
 exact ⟨Gd.refl r,fun _ _ e=>e,VD.str.mpr rfl⟩
def YJ (lo:Int) (n:Nat):List D:=(List.range n).map fun (k:Nat) => .p (.int (lo+(k:Int)))
theorem Zha {K:KW} {lo:Int} {n:Nat}:ItD K c H (Itr lo n) (YJ lo n):=fun c' m' H' p ex r i=>by
 refine ⟨fun d e=>?_,fun hl=>by show n≤i;simpa [YJ] using hl⟩
 simp only [YJ,List.getElem?_map,Option.map_eq_some_iff] at e
 obtain ⟨k,h1,h2⟩:=e
 have hk:=List.getElem?_eq_some_iff.mp h1
 obtain ⟨hk,e1⟩:=hk
 simp at e1 hk
 subst e1
 refine ⟨hk,fun v H'' y=>?_⟩
 obtain ⟨e1,e2⟩:=y
 subst e1 e2 h2
 exact ⟨Gd.refl r,fun _ _ e=>e,VD.int.mpr rfl⟩
/-- a frozen dict's keys and values -/
def Kf:D→Option (List PyData×List D)
 | .p (.dict kvs)=>some (kvs.map (·.1),(kvs.map (·.2)).map D.p)
 | .dct ks xs=>some (ks,xs)
 | _=>none
theorem Zbe {K:KW} {v:V} {d:D} {ks:List PyData} {xs:List D} (h:VD K H c v d) (e:Kf d=some (ks,xs)):∃a o es,v = .ref a∧H a=some (.frz o (gdO K.w a es))∧qry K H es ks∧VDs K H c (es.map (·.2.2)) xs:=by
 unfold Kf at e
 split at e
 ·cases e
  unfold VD at h
  cases h with
  | dG h1 h2 h3 h4 h5 h6=>exact ⟨_,_,_,rfl,h1,⟨by rw [h2,List.map_map];rfl,h3,h4,h5⟩,VDs.ofp h6⟩
 ·cases e
  unfold VD at h
  exact h
 ·cases e
theorem qry.len {K:KW} {es:EsE} {ks:List PyData} (h:qry K H es ks):es.length=ks.length:=by
 have:=congrArg List.length h.key
 simpa using this
theorem RP.get {K:KW}:∀{vs:List V} {ds:List PyData} {i:Nat} {d:PyData},RP K H vs ds→ds[i]?=some d→∃v,vs[i]?=some v∧DpZ K H v d
 | _,_,i,_,.nil,e=>by simp at e
 | _,_,0,_,.cons h _,e=>by simp at e;subst e;exact ⟨_,rfl,h⟩
 | _,_,i+1,_,.cons _ r,e=>by
  obtain ⟨v,h1,h2⟩:=RP.get (i:=i) r (by simpa using e)
  exact ⟨v,by simpa using h1,h2⟩
theorem ZdN {K:KW} {a:Addr} {o:Obj} {b:Bool} {es:EsE} {ks:List PyData} (h1:H a=some (.frz o (lk2 b o (gdO K.w a es)))) (h2:qry K H es ks):ItD K c H (Za1 K.w a o b es) (ks.map D.p):=fun c' m' H' p ex r i=>by
 have f:=ex _ _ rfl h1
 have k2:=h2.ext ex
 refine ⟨fun d e=>?_,fun hl=>⟨f,by rw [h2.len];simpa using hl⟩⟩
 rw [List.getElem?_map,Option.map_eq_some_iff] at e
 obtain ⟨k,e1,rfl⟩:=e
 obtain ⟨v,g1,g2⟩:=k2.kd.get e1
 refine ⟨⟨f,by rw [h2.len];exact (List.getElem?_eq_some_iff.mp e1).1⟩,fun x H'' y=>?_⟩
 obtain ⟨rfl,en,y1,rfl⟩:=y
 refine ⟨Gd.refl r,fun _ _ e=>e,?_⟩
 rw [List.getElem?_map,y1] at g1
 cases g1
 unfold VD
 exact g2
def prs (ks:List PyData) (xs:List D):List D:=(ks.zip xs).map fun q=>Yj [.p q.1,q.2]
/-- the items of a frozen list,a tuple,a text,a frozen dict's keys -/
def KY:D→Option (List D)
 | .p (.dict kvs)=>some ((kvs.map (·.1)).map D.p)
 | .dct ks _=>some (ks.map D.p)
 | .p (.list ds)=>some (ds.map D.p)
 | .lst ds=>some ds
 | .p (.tuple ds)=>some (ds.map D.p)
 | .tup ds=>some ds
 | .p (.str x)=>some (signs x)
 | _=>none
def Jh (f:FE):FI:=fun ρ m=>(f ρ m).bind fun d m1=>match KY d with
 | some ds => .ok ds m1
 | none => .stuck
/-- a sequence as it is: which rule serves hangs on the datum -/
theorem Zdl (h:DE X W e f):DI X W tg e (Jh f):=fun c ρ m σ H R r s w=>by
 unfold Jh at w
 cases q:f ρ m with
 | stuck=>rw [q] at w;exact w.elim
 | exc x m1 =>
  rw [q] at w
  exact YK (pi_list Zz) (h c ρ m σ H _ r s (by rw [q];exact w))
 | ok d m1 =>
  rw [q] at w
  have go:∀{Q:VK},(∀c1 v H1,Gd X.kw c c1 m1 H H1→VD X.kw H1 c1 v d→Q v H1)→WE X e σ H Q:=fun {Q} k=>h c ρ m σ H Q r s (by rw [q];exact k)
  cases d with
  | p d =>
   cases d with
   | list ds =>
    refine YK (pi_list Zz) (go fun c1 v H1 g hv=>?_)
    unfold VD at hv
    cases hv with
    | @lst a xs _ hf hq=>exact ⟨a,rfl,⟨xs,hf.sq⟩,w c1 _ H1 g (ZdO hf (VDs.ofp hq))⟩
   | tuple ds =>
    refine YK (pi_tup Zz) (go fun c1 v H1 g hv=>?_)
    unfold VD at hv
    cases hv with
    | @tup a xs _ hf hq=>exact ⟨a,rfl,⟨xs,hf⟩,w c1 _ H1 g (ZdP hf (VDs.ofp hq))⟩
   | str x=>exact YK (pi_str Zz) (go fun c1 v H1 g hv=>⟨x,VD.str.mp hv,w c1 _ H1 g Zhb⟩)
   | none=>exact w.elim
   | bool b=>exact w.elim
   | int b=>exact w.elim
   | dict b =>
    refine YK (Zeq Zz) (go fun c1 v H1 g hv=>?_)
    obtain ⟨a,o,es,e1,e2,e3,e4⟩:=Zbe hv rfl
    exact ⟨a,o,false,es,e1,e2,w c1 _ H1 g (ZdN (b:=false) e2 e3)⟩
  | lst ds =>
   refine YK (pi_list Zz) (go fun c1 v H1 g hv=>?_)
   unfold VD at hv
   obtain ⟨a,xs,e1,hf,hq⟩:=hv
   exact ⟨a,e1,⟨xs,hf.sq⟩,w c1 _ H1 g (ZdO hf hq)⟩
  | tup ds =>
   refine YK (pi_tup Zz) (go fun c1 v H1 g hv=>?_)
   unfold VD at hv
   obtain ⟨a,xs,e1,hf,hq⟩:=hv
   exact ⟨a,e1,⟨xs,hf⟩,w c1 _ H1 g (ZdP hf hq)⟩
  | dct ks xs =>
   refine YK (Zeq Zz) (go fun c1 v H1 g hv=>?_)
   obtain ⟨a,o,es,e1,e2,e3,e4⟩:=Zbe hv rfl
   exact ⟨a,o,false,es,e1,e2,w c1 _ H1 g (ZdN (b:=false) e2 e3)⟩
  | cell i=>exact w.elim
  | obj i j k=>exact w.elim
  | exn i j k=>exact w.elim
  | exv i j k=>exact w.elim
  | fn i=>exact w.elim
  | ty i=>exact w.elim
  | opq=>exact w.elim
  | st ps=>exact w.elim
theorem DA.qwQ {fl:Rho→Store→Res (List D)} {k:List D→Store→Res (List D)} {Q:List V→Hp→Prop} {R:It→Hp→Prop} (h:DA X W es fl) (r:Q9 X.kw c m H) (s:Slo X.kw H c ρ σ) (hb:WM X W c H σ ((fl ρ m).bind k) R)
  (q:∀d m1 c1 v H1,Q9 X.kw c1 m1 H1→Slo X.kw H1 c1 ρ σ→Gd X.kw c c1 m1 H H1→VDs X.kw H1 c1 v d→WM X W c H σ (k d m1) R→Q v H1):WA X es σ H Q:=by
 refine h c ρ m σ H Q r s ?_
 cases e:fl ρ m with
 | ok d m1 =>
  rw [e] at hb
  exact fun c1 v H1 g hv=>q d m1 c1 v H1 g.rel (g.slots s) g hv hb
 | exc x m1=>rw [e] at hb;exact hb
 | stuck=>rw [e] at hb;exact hb
/-- the bounds are asked classically: neither whnf nor the kernel runs into them -/
noncomputable def Wz (j:Int) (m:Store):Res (List D):=@ite _ (-(2 ^ 62)≤j∧j < 2 ^ 62) (Classical.propDecidable _) (.ok (YJ 0 j.toNat) m) .stuck
noncomputable def ZaP (ds:List D) (m:Store):Res (List D):=match ds with
 | [.p (.int j)]=>Wz j m
 | _ => .stuck
noncomputable def JR (fl:FI):FI:=fun ρ m=>(fl ρ m).bind ZaP
theorem Ku {fl:FI} (hg:Gl X "range") (hm:X.mg "range"=none) (ha:DA X W [a] fl) (hs:starEach [a] X.env=[(false,eval a X.env)]:=by rfl):DI X W tg (.Call (.Name "range" p) [a] [] pos) (JR fl):=fun c ρ m σ H R r s w =>
 YK (pi_range1 hg hm Jc hs) (ha.qwQ r s w fun ds m1 c1 vs H1 r1 s1 g1 h1 w1=>by
  unfold ZaP at w1
  split at w1
  ·rename_i j
   obtain ⟨v,e1,h2⟩:=VDs.M9 h1
   subst e1
   cases VD.int.mp h2
   unfold Wz at w1
   split at w1
   ·rename_i hj
    exact ⟨j,rfl,hj.1,hj.2,w1 c1 _ H1 g1 Zha⟩
   ·exact w1.elim
  ·exact w1.elim)
def pairs (k:Nat):List D→List D
 | []=>[]
 | d::ds=>Yj [.p (.int (k:Nat)),d]::pairs (k+1) ds
theorem Zca:∀(ds:List D) (k i:Nat) (d:D),(pairs k ds)[i]?=some d→∃d0,ds[i]?=some d0∧d=Yj [.p (.int ((k+i:Nat):Int)),d0]
 | [],k,i,d,e=>by simp [pairs] at e
 | d0::ds,k,0,d,e=>by
  simp only [pairs,List.getElem?_cons_zero,Option.some.injEq] at e
  exact ⟨d0,rfl,e.symm⟩
 | d0::ds,k,i+1,d,e=>by
  simp only [pairs,List.getElem?_cons_succ] at e
  obtain ⟨d1,h1,h2⟩:=Zca ds (k+1) i d e
  refine ⟨d1,by simpa using h1,?_⟩
  rw [h2]
  congr 5
  omega
theorem Zeo:∀(ds:List D) (k:Nat),(pairs k ds).length=ds.length
 | [],_=>rfl
 | d::ds,k=>by simp [pairs,Zeo ds]
def Zbn (fl:FI):FI:=fun ρ m=>(fl ρ m).bind fun ds m1=>match ds with
 | [.p (.list xs)] => .ok (pairs 0 (xs.map D.p)) m1
 | [.lst xs] => .ok (pairs 0 xs) m1
 | _ => .stuck
end
def ZbB (g:FG) (body:FS):List D→Rho→Store→Ib
 | [],ρ,m => .nx ρ m
 | d::ds,ρ,m=>match (g d ρ m).seq body with
  | .nx ρ1 m1=>ZbB g body ds ρ1 m1
  | .ct ρ1 m1=>ZbB g body ds ρ1 m1
  | .bk ρ1 m1 => .nx ρ1 m1
  | r=>r
def ZbA (fi:FI) (g:FG) (body:FS):FS:=fun ρ m=>(fi ρ m).M5 ρ fun ds m1=>ZbB g body ds ρ m1
end L2.Dn
namespace L2.Dn
open PySem PySem.Spec PyProof.Rows L2
abbrev Wno:WX:=fun _ _ _ _=>False
/-- a tracked list beside the cells -/
theorem Q9.side {K:KW} {c:Anc} {m:Store} {H:Hp} {a:Addr} {xs ys:List V} (r:Q9 K c m H) (hn:¬Has c a) (ha:H a=some (.lst xs)):Q9 K c m (upd H a (.lst ys)):=by
 have ex:Ext H (upd H a (.lst ys)):=Ext.put ha
 exact ⟨r.len,r.inj,fun i b x h1 h2=>(r.at_ i b x h1 h2).mono ex (Pre.refl _) fun zs _ e=>by rw [upd_ne (fun z=>hn ⟨i,by rw [←z];exact h1⟩)];exact e⟩
theorem Zd9 {X:Cx} {W:WX} {σ:St} {c c':Anc} {H H':Hp} {m':Store} {z:Md} {ds:List D} {xs:List V} {a:Addr} {Q:VK} (g:Gd X.kw c c' m' H H') (h0:H a=none) (hn:¬Has c' a) (ha:H' a=some (.lst xs)) (hv:VDs X.kw H' c' xs ds) (h:Want X W c H σ (ZV z ds m') Q):QF Q (.ref a) H':=by
 have nc:∀b,Has c b→b≠a:=fun b hb e=>hn (e ▸ hb.pre g.pre)
 have neF:∀b o,H b=some o→b≠a:=fun b o e z=>by rw [z,h0] at e;cases e
 cases z with
 | z =>
  right
  refine ⟨a,_,rfl,ha,trivial,fun o=>?_⟩
  have ex:Ext H' (upd H' a (.frz o (.lst xs))):=Ext.put ha
  have g2:Gd X.kw c c' m' H (upd H' a (.frz o (.lst xs))):=by
   refine ⟨g.pre,g.ext.trans ex,g.new,fun b u hb e=>by rw [upd_ne (neF b u e)];exact g.frame b u hb e,g.rel.len,g.rel.inj,fun i b x h1 h2=>(g.rel.at_ i b x h1 h2).mono ex (Pre.refl _) fun zs _ e=>?_⟩
   rw [upd_ne (fun z=>hn ⟨i,by rw [←z];exact h1⟩)]
   exact e
  exact h c' _ _ g2 (ZbU (VDs.mono ex (Pre.refl _) _ hv) (.inl ⟨o,upd_same⟩))
 | l =>
  left
  cases hl:nxs ds with
  | false=>rw [ZV,hl] at h;exact h.elim
  | true =>
   rw [ZV,hl] at h
   have g2:Gd X.kw c (c'.push a true) (m'.push (.lst ds) true) H H':=⟨g.pre.trans (Wy _ _ _),g.ext,fun b hb=>(KN hb).elim (g.new b) fun e => .inr (by rw [e];exact h0),g.frame,g.rel.adopt true hn ha (hv.cold hl)⟩
   refine h _ _ _ g2 ?_
   unfold VD
   exact ⟨a,by rw [←Jb g.rel];exact JQ _ _ _,rfl⟩
 | g =>
  left
  cases hl:nls ds with
  | false=>rw [ZV,hl] at h;exact h.elim
  | true =>
   rw [ZV,hl] at h
   have g2:Gd X.kw c (c'.push a false) (m'.push (.lst ds) false) H H':=⟨g.pre.trans (Wy _ _ _),g.ext,fun b hb=>(KN hb).elim (g.new b) fun e => .inr (by rw [e];exact h0),g.frame,g.rel.adopt false hn ha ((VDs.nl ds hv hl).cold (YX _ hl))⟩
   refine h _ _ _ g2 ?_
   unfold VD
   exact ⟨a,by rw [←Jb g.rel];exact JQ _ _ _,rfl⟩
def Yp (ρ:Rho):List Nat→Rho
 | []=>ρ
 | v::vs=>(Yp ρ vs).set v none
def noX {α:Type}:Res α→Res α
 | .exc _ _ => .stuck
 | r=>r
def lcM (g:D→Rho→Option Rho) (t:Rho→Store→Res Bool) (fe:FE) (ρ:Rho):List D→Store→Res (List D)
 | [],m => .ok [] m
 | d::ds,m=>match g d ρ with
  | some ρ1=>(noX (t ρ1 m)).bind fun b m2=>if b then (noX (fe ρ1 m2)).bind fun y m3=>(lcM g t fe ρ ds m3).bind fun ys m4 => .ok (y::ys) m4 else lcM g t fe ρ ds m2
  | none => .stuck
def lcE (z:Md) (vs:List Nat) (fi:FI) (g:D→Rho→Option Rho) (t:Rho→Store→Res Bool) (fe:FE):FE:=fun ρ m=>(fi ρ m).bind fun ds m1=>if ds.length≤sizeLine then (lcM g t fe (Yp ρ vs) ds m1).bind fun ys m2=>ZV z ys m2 else .stuck
def Ju (i:Nat):D→Rho→Option Rho:=fun d ρ=>some (ρ.set i (some d))
section
variable {X:Cx} {W:WX} {a b e tg iter elt:Expr} {ifs:List Expr} {scope:Scope} {own:List (Str×Nat)} {fa fb f fe:FE} {ft:Rho→Store→Res Bool} {pos p:Pos} {c c':Anc} {ρ:Rho} {m m':Store} {σ:St} {H H':Hp} {fi:FI}
theorem Slo.wipe {K:KW} (s:Slo K H c ρ σ):∀vs:List Nat,Slo K H c (Yp ρ vs) (wipe σ vs)
 | []=>s
 | v::vs=>by
  have ih:=Slo.wipe s vs
  unfold Yp L2.wipe
  refine ⟨by simp [ih.len],fun j d' q=>?_⟩
  by_cases hj:j=v
  ·subst hj
   have hl:j < ((Yp ρ vs).set j none).length:=(List.getElem?_eq_some_iff.mp q).1
   rw [List.getElem?_set_self (by simpa using hl)] at q
   cases q
  ·rw [List.getElem?_set_ne (Ne.symm hj)] at q ⊢
   exact ih.at_ j d' q
theorem Zc0:∀{vs:List Nat} {j:Nat},j∈vs→∀σ:St,j < σ.length→(wipe σ vs)[j]?=some none
 | v::vs,j,hj,σ,hl=>by
  unfold L2.wipe
  by_cases h:j=v
  ·subst h
   exact List.getElem?_set_self (by rw [wipe_length];exact hl)
  ·rw [List.getElem?_set_ne (Ne.symm h)]
   rcases List.mem_cons.mp hj with z | z
   ·exact absurd z h
   ·exact Zc0 z σ hl
 | [],j,hj,_,_=>by cases hj
theorem ZaY {vs:List Nat} {σ σ':St} (hl:σ'.length=σ.length) (h:∀j,j∉vs→σ'[j]?=σ[j]?):wipe σ' vs=wipe σ vs:=by
 refine List.ext_getElem? fun j=>?_
 by_cases hj:j∈vs
 ·by_cases hk:j < σ.length
  ·rw [Zc0 hj σ hk,Zc0 hj σ' (by rw [hl];exact hk)]
  ·rw [List.getElem?_eq_none (by rw [wipe_length];omega),List.getElem?_eq_none (by rw [wipe_length];omega)]
 ·rw [wipe_out hj,wipe_out hj]
  exact h j hj
/-- a target and what it does to the slots -/
def DLg (X:Cx) (tg:Expr) (is:List Nat) (g:D→Rho→Option Rho):Prop:=∀(c:Anc) (ρ ρ':Rho) (σ:St) (H:Hp) (v:V) (d:D) (R:St→Hp→Prop),Slo X.kw H c ρ σ→VD X.kw H c v d→g d ρ=some ρ' →
 (∀σ',Slo X.kw H c ρ' σ'→σ'.length=σ.length→(∀j,j∉is→σ'[j]?=σ[j]?)→R σ' H)→WG X tg v σ H R
theorem Zbj (i:Nat) {x:Str} (hN:X.N.Nodup) (hi:X.N[i]?=some x:=by rfl) (hx:Loc X.env.scope x:=by first | exact Or.inl rfl | exact Or.inr rfl) (hf:X.fn x=true∨X.env.scope.names.lookup x=some .local:=by first | exact .inl rfl | exact .inr rfl | assumption):DLg X (.Name x pos) [i] (Ju i) :=
 fun c ρ ρ' σ H v d R s hv e q=>by
  cases e
  refine ZaW (pg_name hN hi hx hf) (q _ (s.set i hv) (by simp) fun j hj=>?_)
  rw [List.getElem?_set_ne (fun z=>hj (by simp [z]))]
/-- the tests of a comprehension -/
abbrev testsOf (l:List Expr) (v:Env):Sem Bool :=
 forIn l true fun x k=>if k=true then do
   let w ←isTrue x v (eval x v)
   pure (ForInStep.yield w)
  else pure (ForInStep.yield k)
def DTs (X:Cx) (ifs:List Expr) (ft:Rho→Store→Res Bool):Prop:=∀(c:Anc) (ρ:Rho) (m:Store) (σ:St) (H:Hp) (Q:Bool→Hp→Prop),Q9 X.kw c m H→Slo X.kw H c ρ σ→Df X Wno c H σ (ft ρ m) Q →
 ∀(pins:List (Addr×Obj)) (s:Shared),Inv X pins σ H s→wpAny (model X.prog X.w) X.A (testsOf ifs X.env) (TP X pins σ Q) X.xe s
def Ji:Rho→Store→Res Bool:=fun _ m => .ok true m
theorem Zbk:DTs X [] Ji:=fun c ρ m σ H Q r s w pins st I=>pts_nil.run pins st σ H Q I (w c H (Gd.refl r))
/-- readings of a comprehension's parts,in whatever block they run -/
def rG (X:Cx) (scope:Scope) (tg:Expr):TG:=fun v σ H R=>∀s0 H0 C cl fp,WG (X.blk s0 H0 scope (compEnvC scope cl C X.env) fp) tg v σ H R
def rT (X:Cx) (scope:Scope) (ifs:List Expr):TT:=fun σ H Q=>∀s0 H0 C cl fp (pins:List (Addr×Obj)) (s:Shared),Inv (X.blk s0 H0 scope (compEnvC scope cl C X.env) fp) pins σ H s →
 wpAny (model X.prog X.w) X.A (testsOf ifs (compEnvC scope cl C X.env)) (TP (X.blk s0 H0 scope (compEnvC scope cl C X.env) fp) pins σ Q) (fun _ _=>False) s
def rE (X:Cx) (scope:Scope) (elt:Expr):TE:=fun σ H Q=>∀s0 H0 C cl fp,WE (X.blk s0 H0 scope (compEnvC scope cl C X.env) fp) elt σ H Q
theorem Zce (s:Shared) (H:Hp) (C:Addr) (cl:List (Str×Addr)) (fp:List Addr):PG (X.blk s H scope (compEnvC scope cl C X.env) fp) tg (rG X scope tg):=⟨fun pins s1 σ H1 v u Q I r h=>(h s H C cl fp).go pins s1 u I r⟩
theorem Zcg (s:Shared) (H:Hp) (C:Addr) (cl:List (Str×Addr)) (fp:List Addr):PTs (X.blk s H scope (compEnvC scope cl C X.env) fp) ifs (rT X scope ifs):=⟨fun pins s1 σ H1 Q I h=>h s H C cl fp pins s1 I⟩
theorem Zcd (s:Shared) (H:Hp) (C:Addr) (cl:List (Str×Addr)) (fp:List Addr):PE (X.blk s H scope (compEnvC scope cl C X.env) fp) elt (rE X scope elt):=⟨fun pins s1 σ H1 Q I h=>(h s H C cl fp).go pins s1 I⟩
theorem Zhw {z:Md} {is:List Nat} {g:D→Rho→Option Rho} {own:List (Str×Nat)} {Q Q':VK} (hi:∀R,WM X W c H σ (fi ρ m) R→WI X tg iter σ H R)
  (hg:∀(s:Shared) (H:Hp) (C:Addr) (cl:List (Str×Addr)) (fp:List Addr),DLg (X.blk s H scope (compEnvC scope cl C X.env) fp) tg is g)
  (ht:∀(s:Shared) (H:Hp) (C:Addr) (cl:List (Str×Addr)) (fp:List Addr),DTs (X.blk s H scope (compEnvC scope cl C X.env) fp) ifs ft)
  (he:∀(s:Shared) (H:Hp) (C:Addr) (cl:List (Str×Addr)) (fp:List Addr),DE (X.blk s H scope (compEnvC scope cl C X.env) fp) Wno elt fe)
  (hsub:∀i∈is,i∈own.map (·.2)) (hc:X.calm=true) (r:Q9 X.kw c m H) (s:Slo X.kw H c ρ σ) (w:Want X W c H σ (lcE z (own.map (·.2)) fi g ft fe ρ m) Q) (hq:∀v H,QF Q v H→Q' v H) :
  tLc (WI X tg iter) (rG X scope tg) (rT X scope ifs) (rE X scope elt) (own.map (·.2)) σ H Q':=by
 have hk:∀s0 H0 cenv fp,(X.blk s0 H0 scope cenv fp).kw=X.kw:=fun s0 H0 cenv fp=>by simp [Cx.kw,hc]
 refine hi _ ?_
 unfold lcE at w
 cases q:fi ρ m with
 | stuck=>rw [q] at w;exact w.elim
 | exc x m1=>rw [q] at w;exact w
 | ok ds m1 =>
  rw [q] at w
  intro c1 J H1 g1 hJ D hD
  have w:Want X W c H σ (if ds.length≤sizeLine then (lcM g ft fe (Yp ρ (own.map (·.2))) ds m1).bind fun ys m2=>ZV z ys m2 else .stuck) Q:=w
  by_cases hz:ds.length≤sizeLine
  ·rw [if_pos hz] at w
   have w1:=Want.shift g1 w
   have nD:¬Has c1 D:=g1.rel.not hD
   have s1:=(g1.slots s).wipe (own.map (·.2))
   -- the rest of the run,from the items that are left and those that are made
   let Rest:Nat→Hp→List V→Prop:=fun i H' acc=>∃c' m' ys,Gd X.kw c1 c' m' H1 H'∧¬Has c' D∧H' D=some (.lst acc)∧VDs X.kw H' c' acc ys∧acc.length≤i ∧
    Want X W c1 H1 σ ((lcM g ft fe (Yp ρ (own.map (·.2))) (ds.drop i) m').bind fun zs m2=>ZV z (ys++zs) m2) Q
   refine ⟨fun i mm H'=>i≤ds.length∧mm=ds.length - i∧∃acc,Rest i H' acc,⟨ds.length,Nat.zero_le _,by simp,[],c1,m1,[],?_,nD,upd_same,by unfold VDs;rfl,Nat.le_refl _,by simpa using w1⟩,?_⟩
   ·exact g1.rel.lay hD
   ·rintro i mm H2 ⟨hi2,hmm,acc,c2,m2,ys,g2,nD2,hD2,hv2,hl2,w2⟩
    obtain ⟨hgo,hstop⟩:=hJ c2 m2 H2 g2.pre g2.ext g2.rel i
    by_cases hlt:i < ds.length
    ·have ed:ds[i]?=some ds[i]:=List.getElem?_eq_getElem hlt
     obtain ⟨go,hy⟩:=hgo _ ed
     have e1:ds.drop i=ds[i]::ds.drop (i+1):=List.drop_eq_getElem_cons hlt
     rw [e1] at w2
     refine .inr ⟨go,fun H'=>∃acc,Rest (i+1) H' acc,fun H' h=>⟨ds.length - (i+1),by omega,hlt,rfl,h⟩,fun x H3 yl=>?_⟩
     obtain ⟨g3,k3,hv⟩:=hy x H3 yl
     have g23:=g2.trans g3
     have hD3:H3 D=some (.lst acc):=k3 D _ hD2
     intro s0 H0 C cl fp
     cases q1:g ds[i] (Yp ρ (own.map (·.2))) with
     | none=>simp only [lcM,q1,Res.bind] at w2;exact w2.elim
     | some ρ1 =>
      refine hg s0 H0 C cl fp c2 _ ρ1 _ H3 x ds[i] _ (by rw [hk];exact g23.slots s1) (by rw [hk];exact hv) q1 fun σ1 s3 hl hj=>⟨?_,?_⟩
      ·rw [show wipe σ (own.map (·.2))=wipe (wipe σ (own.map (·.2))) (own.map (·.2)) from (ZaY (wipe_length _ _) fun j hj=>wipe_out hj).symm]
       exact ZaY hl fun j hm=>hj j fun z=>hm (hsub j z)
      ·intro s4 H4 C4 cl4 fp4 qvY st4 I4
       simp only [lcM,q1] at w2
       rw [hk] at s3
       refine ht s4 H4 C4 cl4 fp4 c2 ρ1 m2 σ1 H3 _ (by rw [hk];exact g3.rel) (by rw [hk];exact s3) ?_ qvY st4 I4
       cases q2:ft ρ1 m2 with
       | stuck=>simp only [q2,noX,Res.bind] at w2;exact w2.elim
       | exc y m5=>simp only [q2,noX,Res.bind] at w2;exact w2.elim
       | ok k m5 =>
        intro c5 H5 g5
        rw [hk] at g5
        have g25:=g23.trans g5
        have hD5:H5 D=some (.lst acc):=g5.frame D _ nD2 hD3
        have nD5:¬Has c5 D:=fun z=>(g5.new D z).elim nD2 fun e=>by rw [hD3] at e;cases e
        simp only [q2,noX,Res.bind] at w2
        cases k with
        | false =>
         rw [if_neg Bool.false_ne_true]
         exact ⟨acc,c5,m5,ys,g25,nD5,hD5,g5.vds (g3.vds hv2),Nat.le_succ_of_le hl2,w2⟩
        | true =>
         rw [if_pos rfl]
         intro s6 H6 C6 cl6 fp6
         refine he s6 H6 C6 cl6 fp6 c5 ρ1 m5 σ1 H5 _ (by rw [hk];exact g5.rel) (by rw [hk];exact g5.slots s3) ?_
         cases q3:fe ρ1 m5 with
         | stuck=>simp only [q3,noX,if_true,Res.bind] at w2;exact w2.elim
         | exc y m7=>simp only [q3,noX,if_true,Res.bind] at w2;exact w2.elim
         | ok y m7 =>
          simp only [q3,noX,if_true,Res.bind] at w2
          intro c7 vy H7 g7 hy7
          rw [hk] at g7 hy7
          have g27:=g25.trans g7
          have hD7:H7 D=some (.lst acc):=g7.frame D _ nD5 hD5
          have nD7:¬Has c7 D:=fun z=>(g7.new D z).elim nD5 fun e=>by rw [hD5] at e;cases e
          refine ⟨acc,hD7,by omega,acc++[vy],c7,m7,ys++[y],?_,nD7,upd_same,?_,by simpa using hl2,?_⟩
          ·have ex:Ext H7 (upd H7 D (.lst (acc++[vy]))):=Ext.put hD7
           exact ⟨g27.pre,g27.ext.trans ex,g27.new,fun b u hb e=>by rw [upd_ne (fun z=>by rw [z,hD] at e;cases e)];exact g27.frame b u hb e,g27.rel.side nD7 hD7⟩
          ·have ex:Ext H7 (upd H7 D (.lst (acc++[vy]))):=Ext.put hD7
           exact VDs.mono ex (Pre.refl _) _ ((g7.vds (g5.vds (g3.vds hv2))).append (VDs.one hy7))
          ·cases q4:lcM g ft fe (Yp ρ (own.map (·.2))) (ds.drop (i+1)) m7 with
           | ok zs m8=>simp only [q4,Res.bind] at w2 ⊢;rw [List.append_assoc];exact w2
           | exc y m8=>simp only [q4,Res.bind] at w2 ⊢;exact w2
           | stuck=>simp only [q4,Res.bind] at w2 ⊢;exact w2
    ·have e:i=ds.length:=by omega
     subst e
     refine .inl ⟨hstop (Nat.le_refl _),?_⟩
     rw [List.drop_length] at w2
     have w3:Want X W c1 H1 σ (ZV z ys m2) Q:=by simpa [lcM,Res.bind] using w2
     exact hq _ _ (Zd9 g2 hD nD2 hD2 hv2 w3)
  ·rw [if_neg hz] at w;exact w.elim
theorem ZfA (z:Md) {is:List Nat} {g:D→Rho→Option Rho} (own:List (Str×Nat)) (hN:X.N.Nodup) (hi:DI X W tg iter fi) (ok:blkC X.N X.env.scope scope own=true)
  (hg:∀(s:Shared) (H:Hp) (C:Addr) (cl:List (Str×Addr)) (fp:List Addr),DLg (X.blk s H scope (compEnvC scope cl C X.env) fp) tg is g)
  (ht:∀(s:Shared) (H:Hp) (C:Addr) (cl:List (Str×Addr)) (fp:List Addr),DTs (X.blk s H scope (compEnvC scope cl C X.env) fp) ifs ft)
  (he:∀(s:Shared) (H:Hp) (C:Addr) (cl:List (Str×Addr)) (fp:List Addr),DE (X.blk s H scope (compEnvC scope cl C X.env) fp) Wno elt fe)
  (hsub:∀i∈is,i∈own.map (·.2):=by decide) (hc:X.calm=true:=by rfl) (hs:∀x,foldedSetIterable iter X.env x=pure x:=by intro _;rfl) :
  DE X W (.ListComp elt [⟨tg,iter,ifs,0⟩] scope pos) (lcE z (own.map (·.2)) fi g ft fe):=fun c ρ m σ H Q r s w =>
 WE.frz (Z9 (pe_lc hc hN ZaJ (blkOk_by ok) Zce Zcg Zcd hs) (Zhw (fun R=>hi c ρ m σ H R r s) hg ht he hsub hc r s w fun _ _ h=>h))
/-- the same ghost step behind a statement -/
def nxF (R:St→Hp→Prop):St→Hp→Prop:=fun σ H=>R σ H∨∃a u,H a=some u∧Mut (some u)∧∀o,R σ (upd H a (.frz o u))
theorem WSt.frz {st:Stmt} {En:Ends} (h:WSt X st { En with nx:=nxF En.nx } σ H):WSt X st En σ H := .mk fun pins s I=>thn (h.go pins s I) fun f s' q=>by
 cases f with
 | next =>
  obtain ⟨σ',H',I',q | ⟨a,xs,h1,mu,q⟩⟩:=q
  ·exact ⟨σ',H',I',q⟩
  ·obtain ⟨o,I2⟩:=Inv.lock I' h1 mu
   exact ⟨σ',_,I2,q o⟩
 | brk=>exact q
 | cont=>exact q
 | ret v=>exact q
end
end L2.Dn
namespace L2.Dn
open PySem PySem.Spec PyProof.Rows L2
inductive RG where
 | ok (d:D) (g:List Cell)
 | exc (x:Exn) (g:List Cell)
 | stuck
abbrev Den:=List D→List Cell→RG
def RG.res (r:RG) (l:List Cell):Res D:=match r with
 | .ok d g => .ok d ⟨g,l⟩
 | .exc x g => .exc x ⟨g,l⟩
 | .stuck => .stuck
/-- what a def promises by its denotation -/
def spD (K:KW) (n:Nat) (den:Den):Sp:=fun vs H Q E=>∃(cg:List Addr) (ds:List D) (g:List Cell),ds.length=n∧Q9 K ⟨cg,[]⟩ ⟨g,[]⟩ H∧VDs K H ⟨cg,[]⟩ vs ds∧(match den ds g with
 | .ok d g'=>∀cg' v H',Gd K ⟨cg,[]⟩ ⟨cg',[]⟩ ⟨g',[]⟩ H H'→VD K H' ⟨cg',[]⟩ v d→Q v H'
 | .exc x g'=>∀cg' cls dd H',Gd K ⟨cg,[]⟩ ⟨cg',[]⟩ ⟨g',[]⟩ H H'→qrz K H' ⟨cg',[]⟩ x cls dd→E cls dd H'
 | .stuck=>False)
/-- how a def's body ends -/
def fin:Ib→RG
 | .rt d m=>if nl d then .ok d m.g else .stuck
 | .nx _ m => .ok (.p .none) m.g
 | .exc x _ m=>if nls (x.fs.map (·.2)) then .exc x m.g else .stuck
 | _ => .stuck
def fnD (n:Nat) (body:FS):Den:=fun ds g=>fin (body (ds.map some++List.replicate (n - ds.length) none) ⟨g,[]⟩)
section
variable {K:KW} {c c':Anc} {m m':Store} {H H':Hp}
theorem Q9.glob (r:Q9 K c m H):Q9 K (glob c) (glob m) H:=by
 refine ⟨⟨r.len.1,rfl⟩,fun i j a h1 h2=>?_,fun i a x h1 h2=>?_⟩
 ·cases i with
  | l i=>cases h1
  | g i =>
   cases j with
   | l j=>cases h2
   | g j=>exact r.inj (.g i) (.g j) a h1 h2
 ·cases i with
  | l i=>cases h1
  | g i=>exact r.at_ (.g i) a x h1 h2
theorem Gd.glob (g:Gd K (glob c) c' m' H H'):Gd K (glob c) (glob c') (glob m') H H':=by
 refine ⟨⟨g.pre.1,List.prefix_refl _⟩,g.ext,fun a ha=>?_,g.frame,g.rel.glob⟩
 obtain ⟨i,e⟩:=ha
 exact g.new a ⟨i,ZaK (ZbG c') e⟩
theorem Has.glob {a:Addr} (h:Has (glob c) a):Has c a:=h.pre (ZbG c)
theorem qdL.notNone {K:KW} {H:Hp} {c:Anc} {a:Addr} {x:Cell} (h:qdL K H c a x):H a≠none:=fun z=>by
 cases x with
 | gone=>obtain ⟨o,u,q⟩:=h;rw [z] at q;cases q
 | lst ds=>obtain ⟨xs,q,_⟩:=h;rw [z] at q;cases q
 | dct ds=>obtain ⟨xs,q,_⟩:=h;rw [z] at q;cases q
 | ins C ds=>obtain ⟨_,_,xs,q,_⟩:=h;rw [z] at q;cases q
theorem Q9.notNone {i:Ix} {a:Addr} (r:Q9 K c m H) (h:c.at_ i=some a):H a≠none:=by
 have:∃x,m.at_ i=some x:=by
  cases i with
  | g i=>exact ⟨_,List.getElem?_eq_getElem (by rw [←r.len.1];exact (List.getElem?_eq_some_iff.mp h).1)⟩
  | l i=>exact ⟨_,List.getElem?_eq_getElem (by rw [←r.len.2];exact (List.getElem?_eq_some_iff.mp h).1)⟩
 obtain ⟨x,e⟩:=this
 exact qdL.notNone (r.at_ i a x h e)
/-- behind a call: the global part is the callee's,the own part stays -/
theorem Gd.back {cg:List Addr} {g':List Cell} (r:Q9 K c m H) (g:Gd K (Dn.glob c) ⟨cg,[]⟩ ⟨g',[]⟩ H H'):Gd K c ⟨cg,c.l⟩ ⟨g',m.l⟩ H H':=by
 have hfr:∀j a,c.at_ (.l j)=some a→¬Has (Dn.glob c) a:=fun j a h1 hb=>by
  obtain ⟨i,e⟩:=hb
  cases i with
  | l i=>cases e
  | g i=>exact nomatch r.inj (.g i) (.l j) a e h1
 have cross:∀i j a,(⟨cg,c.l⟩:Anc).at_ (.g i)=some a→(⟨cg,c.l⟩:Anc).at_ (.l j)=some a→False:=by
  intro i j a h1 h2
  rcases g.new a ⟨.g i,h1⟩ with z | z
  ·exact hfr j a h2 z
  ·exact r.notNone (i := .l j) h2 z
 refine ⟨⟨g.pre.1,List.prefix_refl _⟩,g.ext,fun a ha=>?_,fun b o hb e=>g.frame b o (fun z=>hb z.glob) e,⟨g.rel.len.1,r.len.2⟩,fun i j a h1 h2=>?_,fun i a x h1 h2=>?_⟩
 ·obtain ⟨i,e⟩:=ha
  cases i with
  | l i=>exact .inl ⟨.l i,e⟩
  | g i=>exact (g.new a ⟨.g i,e⟩).imp (fun z=>z.glob) fun z=>z
 ·cases i with
  | g i =>
   cases j with
   | g j=>exact g.rel.inj (.g i) (.g j) a h1 h2
   | l j=>exact (cross i j a h1 h2).elim
  | l i =>
   cases j with
   | g j=>exact (cross j i a h2 h1).elim
   | l j=>exact r.inj (.l i) (.l j) a h1 h2
 ·cases i with
  | g i=>exact g.rel.at_ (.g i) a x h1 h2
  | l i=>exact (r.at_ (.l i) a x h1 h2).mono g.ext ⟨g.pre.1,List.prefix_refl _⟩ fun xs lx e=>g.frame a _ (hfr i a h1) e
end
theorem Q9.cold {K:KW} {c:Anc} {m:Store} {H:Hp} (r:Q9 K c m H):Q9 K.cold c m H:=⟨r.len,r.inj,r.at_⟩
theorem Q9.warm {K:KW} {c:Anc} {m:Store} {H:Hp} (r:Q9 K.cold c m H):Q9 K c m H:=⟨r.len,r.inj,r.at_⟩
theorem Gd.warm {K:KW} {c c':Anc} {m':Store} {H H':Hp} (g:Gd K.cold c c' m' H H'):Gd K c c' m' H H':=⟨g.pre,g.ext,g.new,g.frame,g.rel.warm⟩
theorem Gd.cold {K:KW} {c c':Anc} {m':Store} {H H':Hp} (g:Gd K c c' m' H H'):Gd K.cold c c' m' H H':=⟨g.pre,g.ext,g.new,g.frame,g.rel.cold⟩
theorem qrz.warm {K:KW} {c:Anc} {H:Hp} {x:Exn} {cls:Value} {dd:Option Addr} (h:qrz K.cold H c x cls dd):qrz K H c x cls dd:=by
 obtain ⟨C,e1,e2,e3⟩:=h
 refine ⟨C,e1,e2,e3.imp (fun z=>z) ?_⟩
 rintro ⟨dx,vs,q1,q2,q3,q4⟩
 exact ⟨dx,vs,q1,q2,q3,q4.warm⟩
section
variable {P:Program} {w:World} {mg:Str→Option Value} {base:Heap}
theorem Slo.start {K:KW} {H:Hp} {c:Anc} {N:List Str} {vs:List V} {ds:List D} (h:VDs K H c vs ds) (hl:ds.length≤N.length):Slo K H c (ds.map some++List.replicate (N.length - ds.length) none) (start N vs):=by
 have e:=h.length
 refine ⟨by simp [L2.start,e],fun i d q=>?_⟩
 by_cases hi:i < ds.length
 ·rw [List.getElem?_append_left (by simpa using hi),List.getElem?_map] at q
  cases q2:ds[i]? with
  | none=>rw [q2] at q;cases q
  | some d' =>
   rw [q2] at q
   cases q
   obtain ⟨v,h1,h2⟩:=h.get q2
   refine ⟨v,?_,h2⟩
   unfold L2.start
   rw [List.getElem?_append_left (by simpa [e] using hi),List.getElem?_map,h1]
   rfl
 ·have hi':ds.length≤i:=Nat.le_of_not_lt hi
  rw [List.getElem?_append_right (by simpa using hi')] at q
  have:=List.mem_of_getElem? q
  simp at this
end
def YL (den:Den) (ds:List D) (m:Store):Res D:=if nls ds then (den ds m.g).res m.l else .stuck
def Ys (den:Den) (fl:FI):FE:=fun ρ m=>(fl ρ m).bind fun ds m1=>YL den ds m1
section
variable {X:Cx} {W:WX} {a b e tg iter:Expr} {es:List Expr} {fa fb f:FE} {pos p:Pos} {c c':Anc} {ρ:Rho} {m m':Store} {σ:St} {H H':Hp} {k n:Nat} {fn:Addr} {fd:FuncData} {ps:List Str} {den:Den} {x:Str} {fl:FI}
theorem Zfk {vs:List V} {ds:List D} {Q:VK} (r:Q9 X.kw c m H) (hv:VDs X.kw H c vs ds) (hl:ds.length=n) (w:Want X W c H σ (YL den ds m) Q):spD X.kw.cold n den vs H Q (L2.WE W σ):=by
 unfold YL at w
 cases hn:nls ds with
 | false=>rw [hn] at w;exact w.elim
 | true =>
  rw [hn] at w
  refine ⟨c.g,ds,m.g,hl,r.glob.cold,(VDs.nl ds hv hn).cold (YX _ hn),?_⟩
  change Want X W c H σ ((den ds m.g).res m.l) Q at w
  cases q:den ds m.g with
  | ok d g' =>
   rw [q] at w
   intro cg' v H' g1 hv1
   have up:Pre ⟨cg',[]⟩ ⟨cg',c.l⟩:=⟨List.prefix_refl _,List.nil_prefix⟩
   exact w ⟨cg',c.l⟩ v H' (Gd.back r g1.warm) (VD.mono (Ext.refl _) up d hv1.warm)
  | exc x g' =>
   rw [q] at w
   intro cg' cls dd H' g1 hx
   have up:Pre ⟨cg',[]⟩ ⟨cg',c.l⟩:=⟨List.prefix_refl _,List.nil_prefix⟩
   refine w ⟨cg',c.l⟩ cls dd H' (Gd.back r g1.warm) ?_
   obtain ⟨C,e1,e2,e3⟩:=hx.warm
   refine ⟨C,e1,e2,e3.imp (fun z=>z) ?_⟩
   rintro ⟨dx,vs,q1,q2,q3,q4⟩
   exact ⟨dx,vs,q1,q2,q3,VDs.mono (Ext.refl _) up _ q4⟩
  | stuck=>rw [q] at w;exact w.elim
/-- lists of arguments have a length that is written -/
def K8 (n:Nat) (fl:FI):Prop:=∀ρ m ds m',fl ρ m = .ok ds m'→ds.length=n
theorem Jt:K8 0 Zb:=fun ρ m ds m' e=>by cases e;rfl
theorem YC {n:Nat} {f:FE} {g:FI} (h:K8 n g):K8 (n+1) (Za f g):=fun ρ m ds m' e=>by
 unfold Za at e
 cases q:f ρ m with
 | ok d m1 =>
  simp only [q,Res.bind] at e
  cases q2:g ρ m1 with
  | ok ds' m2 =>
   simp only [q2,Res.bind] at e
   cases e
   simp [h _ _ _ _ q2]
  | exc=>simp only [q2,Res.bind] at e;cases e
  | stuck=>simp only [q2,Res.bind] at e;cases e
 | exc=>simp only [q,Res.bind] at e;cases e
 | stuck=>simp only [q,Res.bind] at e;cases e
end
end L2.Dn
namespace L2.Dn
open PySem PySem.Spec PyProof.Rows L2
structure FnG (P:Program) (w:World) (K:PySem.W.Frag) (mg:Str→Option Value) (base:Heap) (k:Nat) (f:Addr) (fd:FuncData) (ps:List Str) (sp:Sp):Prop where
 len:∀vs H Q E,sp vs H Q E→vs.length=ps.length
 go:∀(A:Around) (outer:List Env) (s:Shared) (H:Hp) (as:Args) (us:List Value) (vs:List V) (Q:VK) (E:XK),A.guards=some []→Room k A →
  Env0 P w K mg base A outer s H→BindsTo s fd as (ps.zip us)→Vals vs us→sp vs H Q E →
  codeAny (model P w) A (.call (.ref f) as) (CR (L2.CX P w) outer P w H s Q E) s
theorem FnG.of {P:Program} {w:World} {K:PySem.W.Frag} {mg:Str→Option Value} {base:Heap} {k:Nat} {f:Addr} {fd:FuncData} {ps:List Str} {sp:Sp} (F:FnOk P w K mg base (L2.CX P w) k f fd ps sp):FnG P w K mg base k f fd ps sp :=
 ⟨F.len,fun A outer s H as us vs Q E _ hr e b r h=>F.run A outer s H as us vs Q E hr e b r h⟩
section
variable {P:Program} {w:World} {K:PySem.W.Frag} {mg:Str→Option Value} {base:Heap}
/-- a def by its body,where nothing is being shown around it -/
theorem Zgv {x qual:Str} {st:Stmt} {f:Addr} {fd:FuncData} {N ps:List Str} {k:Nat} {sp:Sp} (F:Fun K x qual st f fd) (S:FnScope N ps (defScope st)) (hlen:∀vs H Q E,sp vs H Q E→vs.length=ps.length)
  (hb:∀(cdv:Value) (A:Around) (outer:List Env) (s:Shared) (H:Hp) (vs:List V) (Q:VK) (E:XK),A.guards=some []→Room k (A.deeper (envOfC qual (defScope st) s.heap.objs.size f cdv))→sp vs H Q E →
   ∃t,PSs (cxOf (L2.CX P w) P w K mg base N qual (defScope st) f cdv A outer s H E) (defBody st) t∧t ⟨fun _ H'=>Q .non H',Q,fun _ _=>False,fun _ _=>False⟩ (start N vs) H) :
  FnG P w K mg base (k+1) f fd ps sp:=by
 obtain ⟨oc,od,kV,doc,pm,an,cdv,ct,osl,rfl,lk,hcd⟩:=F.ex
 refine ⟨hlen,fun A outer s H as us vs Q E hg hr env bd rl want=>?_⟩
 have stay:∀b o,base.get? b=some o→s.heap.get? b=some o:=fun b o h=>(env.bs b o h).1
 have kin:K.In s.heap:=env.mod.kin.keeps stay
 refine codeAny_call_function hr.depth (kin _ _ lk) rfl S.co S.gen rfl (PySem.W.codeRec_of kin hcd) (bd _ _ _ _ ?_)
 refine wpAny_newFunctionEnv_cells S.kind (fun y hy=>?_) fun ev hev s1 ic=>?_
 ·rcases S.par y.1 (List.of_mem_zip (show (y.1,y.2)∈ps.zip us from hy)).1 with q | q
  ·exact Or.inl q
  ·exact Or.inr ⟨q,PySem.W.cellsFrom_some _ _ _ (Or.inl q)⟩
 subst hev
 refine ⟨(env.mod.nolimit.keeps stay).keeps ic.toInCall.keep,codeAny_func ?_⟩
 obtain ⟨t,ht,q⟩:=hb cdv A outer s H vs Q E hg (hr.deeper _) want
 have J0:=inv_start (CX:=L2.CX P w) (E:=E) S hr.hd env (hlen _ _ _ _ want) rl ic
 refine wpAny_mono (ht.run [] s1 _ H _ J0 q) (fun fl s' out=>?_) fun _ _ z=>z
 cases fl with
 | next=>obtain ⟨_,H',J,z⟩:=out;exact ⟨.non,H',J.os,J.bare,J.base,J.hok,rfl,z⟩
 | ret u=>obtain ⟨v,_,H',J,rv,z⟩:=out;exact ⟨v,H',J.os,J.bare,J.base,J.hok,rv,z⟩
 | brk=>obtain ⟨_,_,_,z⟩:=out;exact z.elim
 | cont=>obtain ⟨_,_,_,z⟩:=out;exact z.elim
theorem JC {x qual:Str} {st:Stmt} {f:Addr} {fd:FuncData} {N ps:List Str} {k n np:Nat} {body:FS} (F:Fun K x qual st f fd) (S:FnScope N ps (defScope st)) (hN:N.length=n) (hp:ps.length=np) (hps:np≤n)
  (hb:∀(cdv:Value) (A:Around) (outer:List Env) (s:Shared) (H:Hp) (E:XK),A.guards=some []→Room k (A.deeper (envOfC qual (defScope st) s.heap.objs.size f cdv)) →
   DSs (cxOf (L2.CX P w) P w K mg base N qual (defScope st) f cdv A outer s H E) (fun cls dd _ H'=>E cls dd H') (defBody st) body):FnG P w K mg base (k+1) f fd ps (spD ⟨K,w,mg,none⟩ np (fnD n body)):=by
 subst hN hp
 refine Zgv F S (fun vs H Q E h=>?_) fun cdv A outer s H vs Q E hg hr h=>?_
 ·obtain ⟨cg,ds,g,h1,h2,h3,h4⟩:=h
  rw [h3.length,h1]
 ·obtain ⟨cg,ds,g,h1,h2,h3,h4⟩:=h
  refine ⟨_,Wx,hb cdv A outer s H E hg hr ⟨cg,[]⟩ _ ⟨g,[]⟩ _ H _ h2 (Slo.start (N:=N) h3 (by omega)) ?_⟩
  unfold fnD at h4
  cases q:body (ds.map some++List.replicate (N.length - ds.length) none) ⟨g,[]⟩ with
  | nx ρ m =>
   rw [q] at h4
   exact fun c' σ' H' g1 s1=>h4 c'.g .non H' (Gd.glob (c:=⟨cg,[]⟩) g1) (VD.non.mpr rfl)
  | rt d m =>
   rw [q] at h4
   cases hn:nl d with
   | false=>simp only [fin,hn,Bool.false_eq_true,if_false] at h4
   | true =>
    simp only [fin,hn,if_true] at h4
    exact fun c' v H' g1 hv=>h4 c'.g v H' (Gd.glob (c:=⟨cg,[]⟩) g1) (VD.nl d hv hn)
  | exc x ρ m =>
   rw [q] at h4
   cases hn:nls (x.fs.map (·.2)) with
   | false=>simp only [fin,hn,Bool.false_eq_true,if_false] at h4
   | true =>
    simp only [fin,hn,if_true] at h4
    intro c' σ' cls dd H' g1 s1 hx
    refine h4 c'.g cls dd H' (Gd.glob (c:=⟨cg,[]⟩) g1) ?_
    obtain ⟨C,e1,e2,e3⟩:=hx
    refine ⟨C,e1,e2,e3.imp (fun z=>z) ?_⟩
    rintro ⟨dx,vs,q1,q2,q3,q4⟩
    exact ⟨dx,vs,q1,q2,q3,VDs.nl _ q4 hn⟩
  | bk ρ m=>rw [q] at h4;exact h4.elim
  | ct ρ m=>rw [q] at h4;exact h4.elim
  | stuck=>rw [q] at h4;exact h4.elim
end
section
variable {X:Cx} {W:WX} {a b e tg iter:Expr} {es:List Expr} {fa fb f:FE} {pos p:Pos} {c c':Anc} {ρ:Rho} {m m':Store} {σ:St} {H H':Hp} {k n:Nat} {fn:Addr} {fd:FuncData} {ps:List Str} {den:Den} {x:Str} {fl:FI}
theorem ZiK {sp:Sp} {pins:List (Addr×Obj)} {s:Shared} {Q:VK} {us:List Value} {vs:List V} (F:FnG X.prog X.w X.K X.mg X.base k fn fd ps sp) (hG:X.A.guards=some []) (hr:Room k X.A) (hb:Binds X.K fd ps []) (tk:Takes X W)
  (I:Inv X pins σ H s) (r:Vals vs us) (h:sp vs H Q (L2.WE W σ)):wpAny (model X.prog X.w) X.A (call (.ref fn) us) (EP X pins σ Q) X.xe s:=by
 have hl:us.length=ps.length:=by rw [←r.length];exact F.len _ _ _ _ h
 have bd:=hb s us I.kIn (by rw [List.append_nil];exact hl)
 rw [List.append_nil] at bd
 refine wpAny_call (codeAny_mono (F.go X.A X.stack s H ⟨us,[]⟩ us vs Q (L2.WE W σ) hG hr I.env0 bd r h) fun out s' q=>?_)
 match out,q with
 | .error e,q=>exact passAt tk σ pins H s e s' I q
 | .ok (.ret u),q=>exact I.after q
theorem Jl (F:FnG X.prog X.w X.K X.mg X.base k fn fd ps (spD X.kw.cold n den)) (hG:X.A.guards=some []) (hr:Room k X.A) (hm:X.mg x=some (.ref fn)) (hk:PySem.W.keepIn X.K (.ref fn)=true) (hb:Binds X.K fd ps []) (tk:Takes X W) (ha:DA X W (e::es) fl) (hl:K8 n fl)
  (hg:Gl X x:=by rfl) (hdb:(x == ("__debug__":Str))=false:=by decide) (he:starEach (e::es) X.env=(false,eval e X.env)::starEach es X.env:=by rfl) (hpl:(backTo pos (starEach es X.env)).any (·.1)=false:=by rfl) :
  DE X W (.Call (.Name x p) (e::es) [] pos) (Ys den fl):=fun c ρ m σ H Q r s w => .mk fun pins st I=>by
 have args:WA X (e::es) σ H (fun vs H1=>spD X.kw.cold n den vs H1 Q (L2.WE W σ)):=by
  refine ha c ρ m σ H _ r s ?_
  unfold Ys at w
  cases q:fl ρ m with
  | ok ds m1 =>
   rw [q] at w
   exact fun c1 vs H1 g1 hv=>Zfk g1.rel hv (hl _ _ _ _ q) (Want.shift g1 w)
  | exc x m1=>rw [q] at w;exact w
  | stuck=>rw [q] at w;exact w
 refine wpAny_Call_Name_kw (ld_glob I hg hm (PySem.W.callWith_K (h₀:=X.base) I.ok.mod.kin hk ?_ he hpl) hdb)
 exact thn (args.go pos pins st I) fun us s1 ⟨vs,H1,I1,r1,q⟩=>⟨I1.kIn,ZiK F hG hr hb tk I1 r1 q⟩
end
end L2.Dn
namespace L2.Dn
open PySem PySem.Spec PyProof.Rows L2
mutual
inductive Rds (h:Heap):Value→PyData→Prop
 | none:Rds h .none .none
 | bool (b):Rds h (.bool b) (.bool b)
 | int (i t):Rds h (.int i t) (.int i)
 | str (x t):Rds h (.str x t) (.str x)
 | list {a o vs n xs}:h.get? a=some o→o.cls = .type "list"→o.data = .seq vs n→MN h vs.toList xs→Rds h (.ref a) (.list xs)
 | tuple {a o vs n xs}:h.get? a=some o→o.cls = .type "tuple"→o.data = .seq vs n→MN h vs.toList xs→Rds h (.ref a) (.tuple xs)
 | dict {a o es n ks}:(a == sysModules)=false→h.get? a=some o→o.cls = .type "dict"→o.data = .dict es n→MN h (es.toList.map (·.key)) (ks.map (·.1))→MN h (es.toList.map (·.val)) (ks.map (·.2))→Rds h (.ref a) (.dict ks)
inductive MN (h:Heap):List Value→List PyData→Prop
 | nil:MN h [] []
 | cons {v vs d ds}:Rds h v d→MN h vs ds→MN h (v::vs) (d::ds)
end
mutual
theorem Rds.reads {h:Heap}:∀{v:Value} {d:PyData},Rds h v d→∃as,Reads h v d as
 | _,_,.none=>⟨_,.none⟩
 | _,_,.bool b=>⟨_,.bool b⟩
 | _,_,.int i t=>⟨_,.int i t⟩
 | _,_,.str x t=>⟨_,.str x t⟩
 | _,_,.list h1 h2 h3 h4=>let ⟨_,r⟩:=MN.reads h4;⟨_,.list h1 h2 h3 r⟩
 | _,_,.tuple h1 h2 h3 h4=>let ⟨_,r⟩:=MN.reads h4;⟨_,.tuple h1 h2 h3 r⟩
 | _,_,.dict _ h1 h2 h3 h4 h5=>let ⟨_,r⟩:=MN.reads h4;let ⟨_,q⟩:=MN.reads h5;⟨_,.dict h1 h2 h3 r q⟩
theorem MN.reads {h:Heap}:∀{vs:List Value} {ds:List PyData},MN h vs ds→∃as,ReadsAll h vs ds as
 | _,_,.nil=>⟨_,.nil⟩
 | _,_,.cons r q=>let ⟨_,x⟩:=Rds.reads r;let ⟨_,y⟩:=MN.reads q;⟨_,.cons x y⟩
end
section
variable {P:Program} {w:World} {h:Heap}
mutual
theorem Rds.shows:∀{v:Value} {d:PyData},Rds h v d→d.showable=true→d.shown.length≤sizeLine→∃bs,ReadAtMost h d.depth bs∧ReprK P w bs h d.depth v d.shown
 | _,_,.none,_,_=>⟨[],(fun _ z=>nomatch z),ReprK.of_is (by simpa only [PyData.shown] using ReprIs.none) _ _ _⟩
 | _,_,.bool b,_,_=>⟨[],(fun _ z=>nomatch z),ReprK.of_is (by simpa only [PyData.shown] using ReprIs.bool b) _ _ _⟩
 | _,_,.int i t,s,_=>⟨[],(fun _ z=>nomatch z),ReprK.of_is (by simpa only [PyData.shown] using ReprIs.int t (by simpa [PyData.showable] using s)) _ _ _⟩
 | _,_,.str x t,_,z=>⟨[],(fun _ z=>nomatch z),ReprK.of_is (by simpa only [PyData.shown] using ReprIs.str x t (by simpa only [PyData.shown] using z)) _ _ _⟩
 | _,_,.list (vs:=vs) h1 h2 h3 h4,s,z=>by
  simp only [PyData.shown] at z
  obtain ⟨bs,hb,hk⟩:=MN.shows h4 (by simpa [PyData.showable] using s) fun t m=>Nat.le_trans (listText_mem_le m) z
  obtain ⟨as,ra⟩:=MN.reads h4
  have whole:=Reads.list h1 h2 h3 ra
  have out:=not_mem_of_deeper whole (Nat.lt_succ_self _) hb
  refine ⟨_::bs,ReadAtMost.cons whole (Nat.le_succ _) hb,?_⟩
  simp only [PyData.depth,PyData.shown]
  obtain ⟨l⟩:=vs
  cases l with
  | nil =>
   have h4':MN h [] _:=h4
   cases h4'
   rw [PyData.shownAll,listText_nil]
   exact .listEmpty h1 h2 h3
  | cons x l=>exact .list h1 h2 h3 out (by simpa using hk.length_eq) fun i y q=>hk.item i y (by simpa using q)
 | _,_,.tuple h1 h2 h3 h4,s,z=>by
  simp only [PyData.shown] at z
  obtain ⟨bs,hb,hk⟩:=MN.shows h4 (by simpa [PyData.showable] using s) fun t m=>Nat.le_trans (tupleText_mem_le m) z
  obtain ⟨as,ra⟩:=MN.reads h4
  have whole:=Reads.tuple h1 h2 h3 ra
  refine ⟨_::bs,ReadAtMost.cons whole (Nat.le_succ _) hb,?_⟩
  simp only [PyData.depth,PyData.shown]
  exact .tuple h1 h2 h3 (not_mem_of_deeper whole (Nat.lt_succ_self _) hb) hk
 | _,_,.dict (es:=es) (ks:=ks) h0 h1 h2 h3 h4 h5,s,z=>by
  simp only [PyData.shown] at z
  obtain ⟨s1,s2⟩:=PyData.showableKv_split ks (by simpa [PyData.showable] using s)
  obtain ⟨b1,r1,k1⟩:=MN.shows h4 s1 fun t m=>by
   obtain ⟨p,hp,hl⟩:=PyData.shownKv_key_le ks t m
   exact Nat.le_trans hl (Nat.le_trans (dictText_mem_le hp) z)
  obtain ⟨b2,r2,k2⟩:=MN.shows h5 s2 fun t m=>by
   obtain ⟨p,hp,hl⟩:=PyData.shownKv_val_le ks t m
   exact Nat.le_trans hl (Nat.le_trans (dictText_mem_le hp) z)
  obtain ⟨as,ra⟩:=MN.reads h4
  obtain ⟨cs,rc⟩:=MN.reads h5
  have whole:=Reads.dict h1 h2 h3 ra rc
  have hb:=(r1.mono (PyData.depthAll_keys_le ks)).append (r2.mono (PyData.depthAll_vals_le ks))
  refine ⟨_::(b1++b2),ReadAtMost.cons whole (Nat.le_succ _) hb,?_⟩
  simp only [PyData.depth,PyData.shown,PyData.shownKv_eq]
  refine .dict h1 h2 h3 h0 (not_mem_of_deeper whole (Nat.lt_succ_self _) hb) (ReprEntriesK.of_two es.toList _ _ ?_ ?_)
  ·exact k1.more_le (fun b m=>List.mem_append_left _ m) (PyData.depthAll_keys_le ks)
  ·exact k2.more_le (fun b m=>List.mem_append_right _ m) (PyData.depthAll_vals_le ks)
theorem MN.shows:∀{vs:List Value} {ds:List PyData},MN h vs ds→PyData.showableAll ds=true→(∀t∈PyData.shownAll ds,t.length≤sizeLine)→∃bs,ReadAtMost h (PyData.depthAll ds) bs∧ReprAllK P w bs h (PyData.depthAll ds) vs (PyData.shownAll ds)
 | _,_,.nil,_,_=>⟨[],(fun _ z=>nomatch z),by rw [PyData.shownAll];exact .nil⟩
 | _,_,.cons (d:=d) (ds:=ds) r q,s,z=>by
  simp only [PyData.showableAll,Bool.and_eq_true] at s
  simp only [PyData.shownAll] at z ⊢
  obtain ⟨b1,r1,k1⟩:=Rds.shows r s.1 (z _ List.mem_cons_self)
  obtain ⟨b2,r2,k2⟩:=MN.shows q s.2 fun t m=>z t (List.mem_cons_of_mem _ m)
  have d1:d.depth≤PyData.depthAll (d::ds):=by simp only [PyData.depthAll];exact Nat.le_max_left _ _
  have d2:PyData.depthAll ds≤PyData.depthAll (d::ds):=by simp only [PyData.depthAll];exact Nat.le_max_right _ _
  exact ⟨b1++b2,(r1.mono d1).append (r2.mono d2),.cons ((k1.more fun b m=>List.mem_append_left _ m).level_le d1) (k2.more_le (fun b m=>List.mem_append_right _ m) d2)⟩
end
/-- repr(v) -/
theorem Rds.call {A:Around} {E:Value→Shared→Prop} {s:Shared} {Q:Value→Shared→Prop} {v:Value} {d:PyData} (r:Rds s.heap v d) (hs:d.showable=true) (hz:d.shown.length≤sizeLine) (hg:A.guards=some []) (hu:A.units+(d.depth+1) < cLine)
  (hQ:∀h' u tk,(∀b o,s.heap.get? b=some o→h'.get? b=some o)→Q (.str d.shown u) { s with heap:=h',toks:=tk }):wpAny (model P w) A (call (.builtin "repr") [v]) Q E s:=by
 have hu1:A.units+1 < cLine:=by omega
 have clr:∀{bs:List Addr},∀b∈bs,Clear [] b:=fun b _=>Clear.nil b
 cases r with
 | none=>simp only [PyData.shown] at hQ;exact PySem.P.repr_of_none (hQ s.heap _ _ fun _ _ e=>e)
 | bool b=>simp only [PyData.shown] at hQ;exact PySem.P.repr_of_bool (hQ s.heap _ _ fun _ _ e=>e)
 | int i t=>simp only [PyData.shown] at hQ;exact PySem.P.repr_of_int (by simpa [PyData.showable] using hs) (hQ s.heap _ _ fun _ _ e=>e)
 | str x t=>simp only [PyData.shown] at hQ hz;exact PySem.P.repr_of_str (hQ s.heap _ _ fun _ _ e=>e) hz
 | @list a o vs n xs h1 h2 h3 h4 =>
  simp only [PyData.shown] at hQ hz
  simp only [PyData.depth] at hu
  obtain ⟨bs,hb,hk⟩:=MN.shows (P:=P) (w:=w) h4 (by simpa [PyData.showable] using hs) fun t m=>Nat.le_trans (listText_mem_le m) hz
  obtain ⟨as,ra⟩:=MN.reads h4
  have out:=not_mem_of_deeper (Reads.list h1 h2 h3 ra) (Nat.lt_succ_self _) hb
  refine call_repr_slot hu1 ⟨o,h1,h2⟩ F.slot_list_repr.toG ?_
  obtain ⟨l⟩:=vs
  cases l with
  | nil =>
   have h4':MN s.heap [] xs:=h4
   cases h4'
   rw [PyData.shownAll,listText_nil] at hQ
   exact call_list_repr_empty ⟨o,h1,h2⟩ h1 h3 ⟨_,_,rfl,hQ s.heap _ _ fun _ _ e=>e⟩
  | cons x l =>
   refine call_list_reprK h1 h2 h3 out (by simpa using hk.length_eq) (fun i y q=>hk.item i y (by simpa using q)) (A:=A.in1) hg clr ?_ (fun _ _ e=>e) (fun h' u tk k=>⟨_,_,rfl,hQ h' u tk k⟩) hz
   show A.units+1+_ < cLine
   omega
 | @tuple a o vs n xs h1 h2 h3 h4 =>
  simp only [PyData.shown] at hQ hz
  simp only [PyData.depth] at hu
  obtain ⟨bs,hb,hk⟩:=MN.shows (P:=P) (w:=w) h4 (by simpa [PyData.showable] using hs) fun t m=>Nat.le_trans (tupleText_mem_le m) hz
  obtain ⟨as,ra⟩:=MN.reads h4
  have out:=not_mem_of_deeper (Reads.tuple h1 h2 h3 ra) (Nat.lt_succ_self _) hb
  refine call_repr_slot hu1 ⟨o,h1,h2⟩ F.slot_tuple_repr ?_
  refine call_tuple_reprK h1 h2 h3 out hk (A:=A.in1) hg clr ?_ (fun _ _ e=>e) (fun h' u tk k=>⟨_,_,rfl,hQ h' u tk k⟩) hz
  show A.units+1+_ < cLine
  omega
 | @dict a o es n ks h0 h1 h2 h3 h4 h5 =>
  simp only [PyData.shown] at hQ hz
  simp only [PyData.depth] at hu
  obtain ⟨s1,s2⟩:=PyData.showableKv_split ks (by simpa [PyData.showable] using hs)
  obtain ⟨b1,r1,k1⟩:=MN.shows (P:=P) (w:=w) h4 s1 fun t m=>by
   obtain ⟨p,hp,hl⟩:=PyData.shownKv_key_le ks t m
   exact Nat.le_trans hl (Nat.le_trans (dictText_mem_le hp) hz)
  obtain ⟨b2,r2,k2⟩:=MN.shows (P:=P) (w:=w) h5 s2 fun t m=>by
   obtain ⟨p,hp,hl⟩:=PyData.shownKv_val_le ks t m
   exact Nat.le_trans hl (Nat.le_trans (dictText_mem_le hp) hz)
  obtain ⟨as,ra⟩:=MN.reads h4
  obtain ⟨cs,rc⟩:=MN.reads h5
  have hb:=(r1.mono (PyData.depthAll_keys_le ks)).append (r2.mono (PyData.depthAll_vals_le ks))
  have out:=not_mem_of_deeper (Reads.dict h1 h2 h3 ra rc) (Nat.lt_succ_self _) hb
  rw [PyData.shownKv_eq] at hz
  simp only [PyData.shownKv_eq] at hQ
  refine call_repr_slot hu1 ⟨o,h1,h2⟩ F.slot_dict_repr ?_
  refine call_dict_reprK h1 h2 h3 h0 out (ReprEntriesK.of_two es.toList _ _ (k1.more_le (fun b m=>List.mem_append_left _ m) (PyData.depthAll_keys_le ks)) (k2.more_le (fun b m=>List.mem_append_right _ m) (PyData.depthAll_vals_le ks))) (A:=A.in1) hg clr ?_ (fun _ _ e=>e) (fun h' u tk k=>⟨_,_,rfl,hQ h' u tk k⟩) hz
  show A.units+1+_ < cLine
  omega
end
mutual
inductive DpA (K:KW) (H:Hp):V→PyData→Prop
 | non:DpA K H .non .none
 | bl (b:Bool):DpA K H (.bl b) (.bool b)
 | int (i:Int):DpA K H (.int i) (.int i)
 | str (x:Str):DpA K H (.str x) (.str x)
 | lst {a:Addr} {xs:List V} {ds:List PyData}:RdL K H a xs→Az K H xs ds→DpA K H (.ref a) (.list ds)
 | tup {a:Addr} {xs:List V} {ds:List PyData}:SqT K H a xs→Az K H xs ds→DpA K H (.ref a) (.tuple ds)
 | dG {a:Addr} {es:List (NestedKey×V×V)} {ds:List (PyData×PyData)}:Rd H a (gdO K.w a es)→Az K H (es.map (·.2.1)) (ds.map (·.1))→Az K H (es.map (·.2.2)) (ds.map (·.2))→DpA K H (.ref a) (.dict ds)
inductive Az (K:KW) (H:Hp):List V→List PyData→Prop
 | nil:Az K H [] []
 | cons {v:V} {vs:List V} {d:PyData} {ds:List PyData}:DpA K H v d→Az K H vs ds→Az K H (v::vs) (d::ds)
end
mutual
theorem DpZ.any {K:KW} {H:Hp}:∀{v:V} {d:PyData},DpZ K H v d→DpA K H v d
 | _,_,.non => .non
 | _,_,.bl b => .bl b
 | _,_,.int i => .int i
 | _,_,.str x => .str x
 | _,_,.lst h r => .lst h.rd (RP.any r)
 | _,_,.tup h r => .tup h (RP.any r)
 | _,_,.dG h q h8 hn r r' => .dG (.inr ⟨_,h⟩) (RP.any r) (RP.any r')
theorem RP.any {K:KW} {H:Hp}:∀{vs:List V} {ds:List PyData},RP K H vs ds→Az K H vs ds
 | _,_,.nil => .nil
 | _,_,.cons h r => .cons (DpZ.any h) (RP.any r)
end
section
variable {X:Cx} {pins:List (Addr×Obj)} {σ:St} {H:Hp} {s:Shared}
theorem ZbF {w:World}:∀{es:List (NestedKey×V×V)} {ens:List DictEntry},Paired (fun (e:NestedKey×V×V) (x:DictEntry)=>x.hash=e.1.hash w∧RelV e.2.1 x.key∧RelV e.2.2 x.val) es ens→Vals (es.map (·.2.1)) (ens.map (·.key))∧Vals (es.map (·.2.2)) (ens.map (·.val))
 | _,_,.nil=>⟨.nil,.nil⟩
 | _,_,.cons h r=>⟨.cons h.2.1 (ZbF r).1,.cons h.2.2 (ZbF r).2⟩
mutual
theorem DpA.rds (I:Inv X pins σ H s):∀{v:V} {d:PyData} {u:Value},DpA X.kw H v d→RelV v u→Rds s.heap u d
 | _,_,u,.non,r=>by cases r;exact .none
 | _,_,u,.bl b,r=>by cases r;exact .bool b
 | _,_,u,.int i,r=>by obtain ⟨t,rfl⟩:=r;exact .int i t
 | _,_,u,.str x,r=>by obtain ⟨t,rfl⟩:=r;exact .str x t
 | _,_,u,.lst h q,r=>by
  cases r
  obtain ⟨z,its,n,rv,e⟩:=h.obj I
  exact .list e rfl rfl (Az.rds I q (by simpa using rv))
 | _,_,u,.tup h q,r=>by
  cases r
  obtain ⟨its,rv,⟨o,e,hc,n,hd⟩,z⟩:=I.tuple h
  exact .tuple e hc hd (Az.rds I q (by simpa using rv))
 | _,_,u,.dG h q q',r=>by
  cases r
  have z:ObjOk X.prog X.w H s.heap _ (HO.ext _):=h.ok I.hok
  obtain ⟨o,ens,ep,h0,h1,h2,h3,h4⟩:=z.1
  obtain ⟨p1,p2⟩:=ZbF h4
  exact .dict h0 h1 h2.1 h3 (Az.rds I q p1) (Az.rds I q' p2)
theorem Az.rds (I:Inv X pins σ H s):∀{vs:List V} {ds:List PyData} {us:List Value},Az X.kw H vs ds→Vals vs us→MN s.heap us ds
 | _,_,us,.nil,r=>by cases r;exact .nil
 | _,_,us,.cons h q,r=>by
  cases r with
  | cons r1 r2=>exact .cons (DpA.rds I h r1) (Az.rds I q r2)
end
end
/-- the whole datum,through the cells -/
def Yg (f:D→Option PyData):List D→Option (List PyData)
 | []=>some []
 | d::ds=>match f d,Yg f ds with
  | some x,some xs=>some (x::xs)
  | _,_=>none
def deep (m:Store):Nat→D→Option PyData
 | _,.p d=>some d
 | n+1,.tup xs=>(Yg (deep m n) xs).map .tuple
 | n+1,.lst xs=>(Yg (deep m n) xs).map .list
 | n+1,.dct ks xs=>(Yg (deep m n) xs).map fun vs => .dict (ks.zip vs)
 | n+1,.cell i=>match m.at_ i with
  | some (.lst xs)=>(Yg (deep m n) xs).map .list
  | some (.dct kvs)=>(Yg (deep m n) (kvs.map (·.2))).map fun vs => .dict ((kvs.map (·.1)).zip vs)
  | _=>none
 | _,_=>none
theorem VF {K:KW} {H:Hp} {c:Anc} {f:D→Option PyData} (hf:∀v d p,VD K H c v d→f d=some p→DpA K H v p):∀(xs:List D) (vs:List V) (ps:List PyData),VDs K H c vs xs→Yg f xs=some ps→Az K H vs ps
 | [],vs,ps,h,e=>by
  cases e
  unfold VDs at h
  subst h
  exact .nil
 | d::ds,vs,ps,h,e=>by
  unfold VDs at h
  obtain ⟨v,r,e1,h1,h2⟩:=h
  subst e1
  unfold Yg at e
  split at e
  ·rename_i x xs q1 q2
   cases e
   exact .cons (hf v d x h1 q1) (VF hf ds r xs h2 q2)
  ·cases e
theorem Az.len {K:KW} {H:Hp}:∀{vs:List V} {ds:List PyData},Az K H vs ds→vs.length=ds.length
 | _,_,.nil=>rfl
 | _,_,.cons _ r=>by simp [Az.len r]
theorem DpA.dict {K:KW} {H:Hp} {a:Addr} {es:List (NestedKey×V×V)} {ks vs:List PyData} (h:Rd H a (gdO K.w a es)) (hk:RP K H (es.map (·.2.1)) ks) (hv:Az K H (es.map (·.2.2)) vs):DpA K H (.ref a) (.dict (ks.zip vs)):=by
 have l1:es.length=ks.length:=by have:=hk.any.len;simpa using this
 have l2:es.length=vs.length:=by have:=hv.len;simpa using this
 refine .dG h ?_ ?_
 ·rw [List.map_fst_zip (by omega)];exact hk.any
 ·rw [List.map_snd_zip (by omega)];exact hv
theorem Va {K:KW} {H:Hp} {c:Anc} {m:Store} (r:Q9 K c m H) (n:Nat):∀(v:V) (d:D) (p:PyData),VD K H c v d→deep m n d=some p→DpA K H v p:=by
 induction n with
 | zero =>
  intro v d p h e
  cases d with
  | p d =>
   have e:some d=some p:=e
   cases e
   unfold VD at h
   exact DpZ.any h
  | _=>cases e
 | succ n ih =>
  intro v d p h e
  cases d with
  | p d =>
   have e:some d=some p:=e
   cases e
   unfold VD at h
   exact DpZ.any h
  | tup xs =>
   obtain ⟨a,vs,e1,h1,h2⟩:=Jg (ds:=xs) h rfl
   have e:(Yg (deep m n) xs).map PyData.tuple=some p:=e
   obtain ⟨ps,q1,q2⟩:=Option.map_eq_some_iff.mp e
   subst e1 q2
   exact .tup h1 (VF ih xs vs ps h2 q1)
  | lst xs =>
   obtain ⟨a,vs,e1,h1,h2⟩:=YS (ds:=xs) r h rfl
   have e:(Yg (deep m n) xs).map PyData.list=some p:=e
   obtain ⟨ps,q1,q2⟩:=Option.map_eq_some_iff.mp e
   subst e1 q2
   exact .lst h1 (VF ih xs vs ps h2 q1)
  | dct ks xs =>
   have e:(Yg (deep m n) xs).map (fun vs=>PyData.dict (ks.zip vs))=some p:=e
   obtain ⟨ps,q1,q2⟩:=Option.map_eq_some_iff.mp e
   unfold VD at h
   obtain ⟨a,o,es,e1,h1,h2,h3⟩:=h
   subst e1 q2
   exact DpA.dict (.inr ⟨o,h1⟩) h2.kd (VF ih xs _ ps h3 q1)
  | cell i =>
   have h0:=h
   unfold VD at h
   obtain ⟨a,h1,e1⟩:=h
   have e:(match m.at_ i with
    | some (.lst xs)=>(Yg (deep m n) xs).map PyData.list
    | some (.dct kvs)=>(Yg (deep m n) (kvs.map (·.2))).map fun vs=>PyData.dict ((kvs.map (·.1)).zip vs)
    | _=>none)=some p:=e
   split at e
   ·rename_i xs hm
    obtain ⟨ps,q1,q2⟩:=Option.map_eq_some_iff.mp e
    obtain ⟨a,vs,e1,h1,h2⟩:=YS (ds:=xs) r h0 (by simp only [Ym,hm])
    subst e1 q2
    exact .lst h1 (VF ih xs vs ps h2 q1)
   ·rename_i kvs hm
    obtain ⟨ps,q1,q2⟩:=Option.map_eq_some_iff.mp e
    obtain ⟨es,g1,g2⟩:=r.at_ i a _ h1 hm
    subst e1 q2
    have g3:=g2.warm.mono (Ext.refl _) (VN _ _)
    exact DpA.dict (.inl g1) g3.kd (VF ih _ _ ps g3.vd q1)
   ·cases e
  | obj _ _ _=>cases e
  | exn _ _ _=>cases e
  | exv _ _ _=>cases e
  | fn _=>cases e
  | ty _=>cases e
  | opq=>cases e
  | st ps=>cases e
/-- the whole datum -/
def whole (m:Store) (d:D):Option PyData:=deep m 8 d
theorem ZaX (m:Store) (d:PyData):whole m (.p d)=some d:=rfl
def V4:List D→Store→OD
 | [d],m=>match whole m d with
  | some p=>if p.showable=true∧p.shown.length≤sizeLine∧p.depth≤60 then some (.p (.str p.shown),m) else none
  | none=>none
 | _,_=>none
def eqP (neg:Bool) (x y:D) (m:Store):OD:=match whole m x,whole m y with
 | some p,some q=>if SeqAt.shaped p=true∧SeqAt.shaped q=true then some (.p (.bool (if neg then !PyData.eqv p q else PyData.eqv p q)),m) else none
 | _,_=>none
section
variable {X:Cx}
theorem Zdd (hG:X.A.guards=some []) (hu:X.A.units+64 < cLine):CallR X (.builtin "repr") (Jd X.kw V4):=by
 intro pins s σ H xs us Q I rv h
 obtain ⟨c,m,ds,r,hv,w⟩:=h
 unfold V4 at w
 split at w
 ·rename_i d
  obtain ⟨v,e1,hv1⟩:=VDs.M9 hv
  subst e1
  obtain ⟨u,rfl,ru⟩:=vals1 rv
  split at w
  ·rename_i p hp
   split at w
   ·rename_i hc
    have rd:=DpA.rds I (Va r 8 v d p hv1 hp) ru
    refine rd.call hc.1 hc.2.1 hG (by omega) fun h' t tk k=>?_
    exact ⟨.str p.shown,H,I.kept (t':=tk) k,⟨t,rfl⟩,w.now r (VD.str.mpr rfl)⟩
   ·exact w.elim
  ·exact w.elim
 ·exact w.elim
theorem Zh9 (hu:X.A.units+64 < cLine):OpR X (compareOp .Eq) (rOf X.kw (eqP false)):=by
 intro pins s σ H x y v u Q I rx ry h
 obtain ⟨c,m,dx,dy,r,h1,h2,w⟩:=h
 unfold eqP at w
 split at w
 ·rename_i p q hp hq
  split at w
  ·rename_i hc
   obtain ⟨as,ra⟩:=(DpA.rds I (Va r 8 _ _ _ h1 hp) rx).reads
   obtain ⟨bs,rb⟩:=(DpA.rds I (Va r 8 _ _ _ h2 hq) ry).reads
   exact SeqAt.compareEq_shaped ra rb hc.1 hc.2 hu ⟨.bl _,H,I,rfl,w.now r (VD.bl.mpr rfl)⟩
  ·exact w.elim
 ·exact w.elim
theorem Ziq (hu:X.A.units+64 < cLine):OpR X (compareOp .NotEq) (rOf X.kw (eqP true)):=by
 intro pins s σ H x y v u Q I rx ry h
 obtain ⟨c,m,dx,dy,r,h1,h2,w⟩:=h
 unfold eqP at w
 split at w
 ·rename_i p q hp hq
  split at w
  ·rename_i hc
   obtain ⟨as,ra⟩:=(DpA.rds I (Va r 8 _ _ _ h1 hp) rx).reads
   obtain ⟨bs,rb⟩:=(DpA.rds I (Va r 8 _ _ _ h2 hq) ry).reads
   exact SeqAt.compareNe_shaped ra rb hc.1 hc.2 hu ⟨.bl _,H,I,rfl,w.now r (VD.bl.mpr rfl)⟩
  ·exact w.elim
 ·exact w.elim
end
end L2.Dn
namespace L2.Dn
open PySem PySem.Spec PyProof.Rows L2
def intOp (C:Int→Int→Bool) (g:Int→Int→PyData):D→D→Store→OD
 | .p (.int i),.p (.int j),m=>if C i j then some (.p (g i j),m) else none
 | _,_,_=>none
def JZ:Int→Int→Bool:=fun _ _=>true
section
variable {X:Cx}
theorem ZaH {fn:Value→Value→Sem Value} {C:Int→Int→Prop} {g:Int→Int→V} {B:Int→Int→Bool} {h:Int→Int→PyData} (ho:OpR X fn (rI C g)) (hB:∀i j,B i j=true→C i j) (hg:∀K H i j,DpZ K H (g i j) (h i j)):OpR X fn (rOf X.kw (intOp B h)):=by
 refine OpR.by_ ho fun x y H Q w=>?_
 obtain ⟨c,m,dx,dy,r,h1,h2,w⟩:=w
 unfold intOp at w
 split at w
 ·rename_i i j
  cases hb:B i j with
  | false=>rw [hb] at w;exact w.elim
  | true =>
   rw [hb] at w
   exact ⟨i,j,VD.int.mp h1,VD.int.mp h2,hB i j hb,.inl (XF.now r w (by unfold VD;exact hg _ _ i j))⟩
 ·exact w.elim
theorem Ww {fn:Value→Value→Sem Value} {g:Int→Int→V} {h:Int→Int→PyData} (ho:OpR X fn (rI0 g)) (hg:∀K H i j,DpZ K H (g i j) (h i j)):OpR X fn (rOf X.kw (intOp JZ h)):=by
 refine OpR.by_ ho fun x y H Q w=>?_
 obtain ⟨c,m,dx,dy,r,h1,h2,w⟩:=w
 unfold intOp at w
 split at w
 ·rename_i i j
  exact ⟨i,j,VD.int.mp h1,VD.int.mp h2,.inl (XF.now r w (by unfold VD;exact hg _ _ i j))⟩
 ·exact w.elim
def Y7:=intOp JZ fun i j => .int (i+j)
def ZcF:=intOp JZ fun i j => .int (i - j)
def ltI:=intOp JZ fun i j => .bool (decide (i < j))
def leI:=intOp JZ fun i j => .bool (decide (i≤j))
def gtI:=intOp JZ fun i j => .bool (decide (j < i))
def geI:=intOp JZ fun i j => .bool (decide (j≤i))
def small (i:Int):Bool:=decide (-(2 ^ 64) < i) && decide (i < 2 ^ 64)
def ZbV:=intOp (fun i j=>small i || small j) fun i j => .int (i*j)
def ZP:=intOp (fun _ j=>decide (0 < j)) fun i j => .int (i % j)
/-- a divisor below 2 ^ 64,whatever is divided -/
def Jr:=intOp (fun _ j=>decide (0 < j) && decide (j < 2 ^ 64)) fun i j => .int (i / j)
def JP:=intOp (fun i j=>decide (0≤j) && decide (j≤1000) && small i) fun i j => .int (i ^ j.toNat)
theorem Zh3:OpR X (binaryOp .Add) (rOf X.kw Y7):=Ww op_add fun _ _ i j => .int _
theorem Zit:OpR X (binaryOp .Sub) (rOf X.kw ZcF):=Ww op_sub fun _ _ i j => .int _
theorem Zij:OpR X (compareOp .Lt) (rOf X.kw ltI):=Ww op_lt fun _ _ i j => .bl _
theorem Zej:OpR X (compareOp .Gt) (rOf X.kw gtI):=Ww op_gt fun _ _ i j => .bl _
theorem Zic:OpR X (compareOp .GtE) (rOf X.kw geI):=Ww op_ge fun _ _ i j => .bl _
theorem JN:OpR X (binaryOp .Mod) (rOf X.kw ZP):=ZaH op_mod (fun i j h=>of_decide_eq_true h) fun _ _ i j => .int _
theorem Zco {i:Int} (h:small i=true) : -(2 ^ 64) < i∧i < 2 ^ 64:=by
 simp only [small,Bool.and_eq_true,decide_eq_true_eq] at h
 exact h
theorem Zil:OpR X (binaryOp .Mult) (rOf X.kw ZbV):=ZaH op_mul (fun i j h=>by
 rcases Bool.or_eq_true_iff.mp h with h | h
 ·exact .inl (Zco h)
 ·exact .inr (Zco h)) fun _ _ i j => .int _
theorem Zei:OpR X (binaryOp .FloorDiv) (rOf X.kw Jr):=ZaH op_fdivW (fun i j h=>by
 simp only [Bool.and_eq_true,decide_eq_true_eq] at h
 exact wide_div (b:=64) h.1 (by omega) (by decide) (by decide)) fun _ _ i j => .int _
theorem Zem:OpR X (binaryOp .Pow) (rOf X.kw JP):=ZaH op_pow (fun i j h=>by
 simp only [Bool.and_eq_true,decide_eq_true_eq] at h
 have:=Zco h.2
 exact ⟨h.1.1,by omega,by omega⟩) fun _ _ i j => .int _
def ZhR:D→Store→OD
 | .p (.int i),m=>some (.p (.int (-i)),m)
 | _,_=>none
def WN:D→D→Store→OD
 | .p (.str x),.p (.str y),m=>if x.length+y.length≤sizeLine then some (.p (.str (x++y)),m) else none
 | _,_,_=>none
theorem Zh5:OpR X (binaryOp .Add) (rOf X.kw WN):=by
 refine OpR.by_ op_add_str fun x y H Q w=>?_
 obtain ⟨c,m,dx,dy,r,h1,h2,w⟩:=w
 unfold WN at w
 split at w
 ·split at w
  ·rename_i hz
   exact ⟨_,_,VD.str.mp h1,VD.str.mp h2,hz,.inl (XF.now r w (VD.str.mpr rfl))⟩
  ·exact w.elim
 ·exact w.elim
theorem Zh7:OpR X (binaryOp .Add) (fun x y H Q=>∃l b xs zs,x = .ref l∧y = .ref b∧RdL X.K H l xs∧RdL X.K H b zs∧xs.length+zs.length≤sizeLine∧∀p,H p=none→Q (.ref p) (upd H p (.lst (xs++zs)))):=by
 intro pins s σ H x y v u Q I rx ry h
 obtain ⟨l,b,xs,zs,rfl,rfl,hA,hB,hz,q⟩:=h
 cases rx
 cases ry
 obtain ⟨_,i1,n1,r1,e1⟩:=hA.obj I
 obtain ⟨_,i2,n2,r2,e2⟩:=hB.obj I
 have l1:=r1.length
 have l2:=r2.length
 refine PySem.P.add_list e1 e2 ?_ (by simp only [List.size_toArray];omega)
 rw [show i1.toArray++i2.toArray=(i1++i2).toArray by simp]
 exact ⟨.ref _,_,I.lnew (t':=s.toks) (r1.append r2) (by simpa using hz),rfl,q _ I.fresh⟩
def Vy (z:Md) (x y:D) (m:Store):OD:=match Ym x m,Ym y m with
 | some xs,some ys=>if xs.length+ys.length≤sizeLine then YW z (xs++ys) m else none
 | _,_=>none
theorem Zh4 (z:Md):OpR X (binaryOp .Add) (rOf X.kw (Vy z)):=by
 refine OpR.by_ Zh7 fun x y H Q w=>?_
 obtain ⟨c,m,dx,dy,r,h1,h2,w⟩:=w
 unfold Vy at w
 split at w
 ·rename_i xs ys q1 q2
  split at w
  ·rename_i hz
   obtain ⟨a,vs,e1,k1,k2⟩:=YS r h1 q1
   obtain ⟨b,ws,e2,k3,k4⟩:=YS r h2 q2
   exact ⟨a,b,vs,ws,e1,e2,k1,k3,by rw [k2.length,k4.length];exact hz,ZaD r (k2.append k4) w⟩
  ·exact w.elim
 ·exact w.elim
def WQ (x y:D) (m:Store):OD:=match Yw x,Yw y with
 | some xs,some ys=>if xs.length+ys.length≤sizeLine then some (Yj (xs++ys),m) else none
 | _,_=>none
theorem Zh6:OpR X (binaryOp .Add) (rOf X.kw WQ):=by
 refine OpR.by_ op_catA fun x y H Q w=>?_
 obtain ⟨c,m,dx,dy,r,h1,h2,w⟩:=w
 unfold WQ at w
 split at w
 ·rename_i xs ys q1 q2
  split at w
  ·rename_i hz
   obtain ⟨a,vs,e1,k1,k2⟩:=Jg h1 q1
   obtain ⟨b,ws,e2,k3,k4⟩:=Jg h2 q2
   refine ⟨a,b,vs,ws,e1,e2,k1,k3,by rw [k2.length,k4.length];exact hz,fun e=>?_,fun _ e=>?_,fun _ _ p hp => .inl (Zea r (k2.append k4) w p hp)⟩
   ·subst e
    have e:xs=[]:=List.eq_nil_of_length_eq_zero (by rw [←k2.length];rfl)
    subst e
    exact .inl (XF.now r w (VR k4 k3))
   ·subst e
    have e:ys=[]:=List.eq_nil_of_length_eq_zero (by rw [←k4.length];rfl)
    subst e
    rw [List.append_nil] at w
    exact .inl (XF.now r w (VR k2 k1))
  ·exact w.elim
 ·exact w.elim
/-- a text times an int -/
def ZbX:D→D→Store→OD
 | .p (.str x),.p (.int n),m=>if decide (-1000000≤n) && decide (n≤1000000) && decide (x.length≤16) then some (.p (.str (Txt.mul x n)),m) else none
 | _,_,_=>none
theorem Zin:OpR X (binaryOp .Mult) (rOf X.kw ZbX):=by
 intro pins s σ H x y v u Q I rx ry h
 obtain ⟨c,m,dx,dy,r,h1,h2,w⟩:=h
 unfold ZbX at w
 split at w
 ·rename_i z n
  split at w
  ·rename_i hz
   simp only [Bool.and_eq_true,decide_eq_true_eq] at hz
   cases VD.str.mp h1
   cases VD.int.mp h2
   obtain ⟨t,rfl⟩:=rx
   obtain ⟨t',rfl⟩:=ry
   refine PySem.SB.mul ⟨?_,fun a b=>?_,fun a b=>?_⟩ fun t2 k=>⟨.str _,H,I.tok k,⟨t2,rfl⟩,XF.now r w (VD.str.mpr rfl)⟩
   ·simp only [Bool.or_eq_false_iff,decide_eq_false_iff_not]
    constructor <;> omega
   ·have hn:0 < n:=by omega
    intro hgt
    have h3:((z.length:Int))*n≤16*1000000:=by
     have a1:(z.length:Int)*n≤16*n:=Int.mul_le_mul_of_nonneg_right (by omega) (by omega)
     omega
    have h4:(z.length:Int)≤(2 ^ 63 - 1) / n:=(Int.le_ediv_iff_mul_le hn).mpr (by omega)
    omega
   ·have h3:z.length*n.toNat≤16*1000000:=Nat.mul_le_mul hz.2 (by omega)
    unfold Builtin.Str.tooLong
    simp only [decide_eq_false_iff_not]
    rw [sizeLine_eq]
    omega
  ·exact w.elim
 ·exact w.elim
def ixD (d i:D) (m:Store):OD:=match i with
 | .p (.int k)=>match d with
  | .p (.str x)=>if x.length≤sizeLine then (match atI x.cps.toList k with
   | some n=>some (.p (.str ⟨#[n]⟩),m)
   | none=>none) else none
  | d=>match Yw d with
   | some xs=>(atI xs k).map fun y=>(y,m)
   | none=>match Ym d m with
    | some xs=>(atI xs k).map fun y=>(y,m)
    | none=>none
 | _=>none
theorem VDs.atI {K:KW} {H:Hp} {c:Anc} {vs:List V} {ds:List D} {k:Int} {d:D} (h:VDs K H c vs ds) (e:L2.atI ds k=some d):∃v,L2.atI vs k=some v∧VD K H c v d:=by
 unfold L2.atI at e ⊢
 rw [h.length]
 cases q:ixN ds.length k with
 | none=>rw [q] at e;cases e
 | some j =>
  rw [q] at e
  obtain ⟨v,h1,h2⟩:=h.get (show ds[j]?=some d from e)
  exact ⟨v,h1,h2⟩
theorem Zhg:IxR X (rOf X.kw ixD):=by
 refine IxR.by_ ix_seq fun x y H Q w=>?_
 obtain ⟨c,m,dx,dy,r,h1,h2,w⟩:=w
 unfold ixD at w
 split at w
 ·rename_i k
  split at w
  ·rename_i z
   split at w
   ·rename_i hz
    split at w
    ·rename_i n hn
     exact .inr (.inr ⟨z,k,n,VD.str.mp h1,VD.int.mp h2,hz,hn,.inl (XF.now r w (VD.str.mpr rfl))⟩)
    ·exact w.elim
   ·exact w.elim
  ·split at w
   ·rename_i xs hx
    cases q:atI xs k with
    | none=>rw [q] at w;exact w.elim
    | some d =>
     rw [q] at w
     obtain ⟨a,vs,e1,k1,k2⟩:=Jg h1 hx
     obtain ⟨v,e2,hv⟩:=k2.atI q
     exact .inr (.inl ⟨a,vs,k,v,e1,VD.int.mp h2,k1,e2,.inl (XF.now r w hv)⟩)
   ·split at w
    ·rename_i xs hx
     cases q:atI xs k with
     | none=>rw [q] at w;exact w.elim
     | some d =>
      rw [q] at w
      obtain ⟨a,vs,e1,k1,k2⟩:=YS r h1 hx
      obtain ⟨v,e2,hv⟩:=k2.atI q
      exact .inl ⟨a,vs,k,v,e1,VD.int.mp h2,RdL.sq k1,e2,.inl (XF.now r w hv)⟩
    ·exact w.elim
 ·exact w.elim
def cutD (xs:List D) (lo hi:Option Int):List D:=(xs.drop (HT.sIx xs.length 0 lo)).take (HT.sIx xs.length xs.length hi - HT.sIx xs.length 0 lo)
theorem VDs.cut {K:KW} {H:Hp} {c:Anc} {vs:List V} {ds:List D} (h:VDs K H c vs ds) (lo hi:Option Int):VDs K H c (cutV vs lo hi) (cutD ds lo hi):=by
 unfold cutV cutD
 rw [h.length]
 exact (h.drop _).take _
def slL (z:Md) (d:D) (lo hi:Option Int) (m:Store):OD:=match Ym d m with
 | some xs=>YW z (cutD xs lo hi) m
 | none=>none
theorem ZiX (z:Md):SlR X (Je X.kw (slL z)):=by
 refine SlR.by_ sl_list fun x lo hi H Q w=>?_
 obtain ⟨c,m,dx,r,h1,w⟩:=w
 unfold slL at w
 split at w
 ·rename_i xs hx
  obtain ⟨a,vs,e1,k1,k2⟩:=YS r h1 hx
  exact ⟨a,vs,e1,RdL.sq k1,ZaD r (k2.cut lo hi) w⟩
 ·exact w.elim
def slS (d:D) (lo hi:Option Int) (m:Store):OD:=match d with
 | .p (.str x)=>if x.length≤sizeLine then some (.p (.str (cutS x lo hi)),m) else none
 | _=>none
theorem ZiY:SlR X (Je X.kw slS):=by
 refine SlR.by_ sl_str fun x lo hi H Q w=>?_
 obtain ⟨c,m,dx,r,h1,w⟩:=w
 unfold slS at w
 split at w
 ·split at w
  ·rename_i hz
   exact ⟨_,VD.str.mp h1,hz,.inl (XF.now r w (VD.str.mpr rfl))⟩
  ·exact w.elim
 ·exact w.elim
def slT (d:D) (lo hi:Option Int) (m:Store):OD:=match Yw d with
 | some xs=>some (Yj (cutD xs lo hi),m)
 | none=>none
theorem ZiZ:SlR X (Je X.kw slT):=by
 refine SlR.by_ sl_tupA fun x lo hi H Q w=>?_
 obtain ⟨c,m,dx,r,h1,w⟩:=w
 unfold slT at w
 split at w
 ·rename_i xs hx
  obtain ⟨a,vs,e1,k1,k2⟩:=Jg h1 hx
  refine ⟨a,vs,e1,k1,fun hw=>?_,fun _ p hp => .inl (Zea r (k2.cut lo hi) w p hp)⟩
  have e:cutV vs lo hi=vs:=by
   unfold cutV
   rw [hw.1,hw.2]
   simp
  have k3:=k2.cut lo hi
  rw [e] at k3
  exact .inl (XF.now r w (VR k3 k1))
 ·exact w.elim
variable {W:WX} {a b e:Expr} {fa f:FE} {pos:Pos}
theorem VDs.reverse {K:KW} {H:Hp} {c:Anc}:∀{ds:List D} {vs:List V},VDs K H c vs ds→VDs K H c vs.reverse ds.reverse
 | [],vs,h=>by unfold VDs at h;subst h;simp [VDs]
 | d::ds,vs,h=>by
  unfold VDs at h
  obtain ⟨v,r,e1,h1,h2⟩:=h
  subst e1
  rw [List.reverse_cons,List.reverse_cons]
  exact (VDs.reverse h2).append (VDs.one h1)
end
end L2.Dn
namespace L2.Dn
open PySem PySem.Spec PyProof.Rows L2
def JX:List D→Store→OD
 | [.p (.int i)],m=>some (.p (.int (if i < 0 then -i else i)),m)
 | _,_=>none
def intD:List D→Store→OD
 | [.p (.int i)],m=>some (.p (.int i),m)
 | [.p (.bool b)],m=>some (.p (.int (if b then 1 else 0)),m)
 | _,_=>none
def JG:List D→Store→OD
 | [.p (.str x)],m=>if x.length≤sizeLine then some (.p (.int x.length),m) else none
 | [d],m=>match Yw d with
  | some xs=>some (.p (.int xs.length),m)
  | none=>match Ym d m with
   | some xs=>some (.p (.int xs.length),m)
   | none=>none
 | _,_=>none
/-- the name of the built-in type -/
def tyN:D→Store→Option String
 | .p .none,_=>some "NoneType"
 | .p (.bool _),_=>some "bool"
 | .p (.int _),_=>some "int"
 | .p (.str _),_=>some "str"
 | .p (.list _),_=>some "list"
 | .p (.tuple _),_=>some "tuple"
 | .p (.dict _),_=>some "dict"
 | .tup _,_=>some "tuple"
 | .lst _,_=>some "list"
 | .dct _ _,_=>some "dict"
 | .cell i,m=>match m.at_ i with
  | some (.lst _)=>some "list"
  | some (.dct _)=>some "dict"
  | _=>none
 | _,_=>none
def ZaV:List D→Option (List String)
 | []=>some []
 | .ty n::r=>(ZaV r).map (n::·)
 | _::_=>none
def Wn (t:String):List String→Option Bool
 | []=>some false
 | n::ns=>match kitB t n with
  | some true=>some true
  | some false=>Wn t ns
  | none=>none
def Yt:List D→Store→OD
 | [d,.ty n],m=>match tyN d m with
  | some t=>(kitB t n).map fun b=>(.p (.bool b),m)
  | none=>none
 | [d,.tup xs],m=>match tyN d m,ZaV xs with
  | some t,some ns=>(Wn t ns).map fun b=>(.p (.bool b),m)
  | _,_=>none
 | _,_=>none
theorem ZeU {K:KW} {H:Hp} {c:Anc}:∀{xs:List D} {vs:List V} {ns:List String},VDs K H c vs xs→ZaV xs=some ns→vs=ns.map V.ty
 | [],vs,ns,h,e=>by
  unfold VDs at h
  cases e
  exact h
 | .ty n::r,vs,ns,h,e=>by
  unfold VDs at h
  obtain ⟨v,q,e1,h1,h2⟩:=h
  simp only [ZaV,Option.map_eq_some_iff] at e
  obtain ⟨ms,e2,rfl⟩:=e
  unfold VD at h1
  rw [e1,h1,ZeU h2 e2]
  rfl
 | .p _::_,_,_,_,e=>by cases e
 | .cell _::_,_,_,_,e=>by cases e
 | .tup _::_,_,_,_,e=>by cases e
 | .lst _::_,_,_,_,e=>by cases e
 | .dct _ _::_,_,_,_,e=>by cases e
 | .obj _ _ _::_,_,_,_,e=>by cases e
 | .exn _ _ _::_,_,_,_,e=>by cases e
 | .exv _ _ _::_,_,_,_,e=>by cases e
 | .fn _::_,_,_,_,e=>by cases e
 | .opq::_,_,_,_,e=>by cases e
 | .st _::_,_,_,_,e=>by cases e
theorem ZdV {K:PySem.W.Frag} {t:String}:∀{ns:List String} {b:Bool},Wn t ns=some b→PySem.W.kitAny K (.type t) (ns.map Value.type)=some b
 | [],b,e=>e
 | n::ns,b,e=>by
  unfold Wn at e
  show (match PySem.W.kitOne K (.type t) (.type n) with | some true=>some true | some false=>PySem.W.kitAny K (.type t) (ns.map Value.type) | none=>none)=some b
  cases q:kitB t n with
  | none=>rw [q] at e;cases e
  | some k =>
   rw [kit_ty q]
   rw [q] at e
   cases k with
   | true=>exact e
   | false=>exact ZdV e
theorem ZeV:∀{ns:List String} {us:List Value},Vals (ns.map V.ty) us→us=ns.map Value.type
 | [],_,.nil=>rfl
 | n::ns,_,.cons r t=>by
  cases r
  rw [ZeV t]
  rfl
section
variable {X:Cx} {c:Anc} {H:Hp} {m:Store}
theorem Zfl:CallR X (.builtin "abs") (Jd X.kw JX):=by
 refine CallR.by_ call_abs fun xs H Q w=>?_
 obtain ⟨c,m,ds,r,hv,w⟩:=w
 unfold JX at w
 split at w
 ·obtain ⟨v,e,h⟩:=VDs.M9 hv
  cases VD.int.mp h
  exact ⟨_,e,.inl (XF.now r w (VD.int.mpr rfl))⟩
 ·exact w.elim
theorem Jk:CallR X (.type "int") (Jd X.kw intD):=by
 refine CallR.by_ call_int1 fun xs H Q w=>?_
 obtain ⟨c,m,ds,r,hv,w⟩:=w
 unfold intD at w
 split at w
 ·obtain ⟨v,e,h⟩:=VDs.M9 hv
  cases VD.int.mp h
  exact .inl ⟨_,e,.inl (XF.now r w (VD.int.mpr rfl))⟩
 ·obtain ⟨v,e,h⟩:=VDs.M9 hv
  cases VD.bl.mp h
  exact .inr ⟨_,e,.inl (XF.now r w (VD.int.mpr rfl))⟩
 ·exact w.elim
theorem call_lenD:CallR X (.builtin "len") (Jd X.kw JG):=by
 refine CallR.by_ L2.call_len fun xs H Q w=>?_
 obtain ⟨c,m,ds,r,hv,w⟩:=w
 unfold JG at w
 split at w
 ·split at w
  ·rename_i hz
   obtain ⟨v,e,h⟩:=VDs.M9 hv
   cases VD.str.mp h
   exact ⟨_,_,e,⟨hz,rfl⟩,.inl (XF.now r w (VD.int.mpr rfl))⟩
  ·exact w.elim
 ·obtain ⟨v,e,h⟩:=VDs.M9 hv
  split at w
  ·rename_i xs hx
   obtain ⟨a,vs,e1,k1,k2⟩:=Jg h hx
   subst e1
   exact ⟨_,xs.length,e,.inr ⟨vs,k1,k2.length.symm⟩,.inl (XF.now r w (VD.int.mpr rfl))⟩
  ·split at w
   ·rename_i xs hx
    obtain ⟨a,vs,e1,k1,k2⟩:=YS r h hx
    subst e1
    exact ⟨_,xs.length,e,.inl ⟨vs,RdL.sq k1,k2.length.symm⟩,.inl (XF.now r w (VD.int.mpr rfl))⟩
   ·exact w.elim
 ·exact w.elim
theorem tyT {K:KW} {a:Addr} {vs:List V} (h:SqT K H a vs):TyX K H (.ref a) (.type "tuple"):=by
 rcases h with (h | ⟨o,h⟩) | ⟨o,its,n,hk,hc,_⟩
 ·exact .base (.tup h)
 ·exact .fTuple h
 ·exact .kTuple hk hc
theorem tyL {K:KW} {a:Addr} {vs:List V} (h:FzL K H a vs):TyX K H (.ref a) (.type "list"):=by
 rcases h with ⟨o,h⟩ | ⟨its,n,hk,_⟩
 ·exact .base (.frz h)
 ·exact .kList hk rfl
/-- the type of a value,dicts of any keys among them -/
inductive TyG (K:KW) (H:Hp):V→Value→Prop where
 | x {v:V} {t:Value} (h:TyX K H v t):TyG K H v t
 | d {a:Addr} {es:List (NestedKey×V×V)} (h:Rd H a (gdO K.w a es)):TyG K H (.ref a) (.type "dict")
theorem ZdW {pins:List (Addr×Obj)} {σ:St} {s:Shared} {x:V} {u t:Value} (I:Inv X pins σ H s) (rx:RelV x u) (ty:TyG X.kw H x t):∃P:Heap→Prop,PySem.W.KitX X.K u t P∧P s.heap∧u ≠ .builtin "__main__.__loader__#opaque":=by
 cases ty with
 | x h=>exact kit_of I rx h
 | d h =>
  cases rx
  have z:ObjOk X.prog X.w H s.heap _ (HO.ext _):=h.ok I.hok
  obtain ⟨o,ens,ep,h0,h1,h2,_⟩:=z.1
  exact ⟨_,PySem.W.kitx_dict,⟨o,h1,h2.1⟩,fun z=>nomatch z⟩
theorem ZeT {v:V} {d:D} {t:String} (r:Q9 X.kw c m H) (h:VD X.kw H c v d) (e:tyN d m=some t):TyG X.kw H v (.type t):=by
 unfold tyN at e
 split at e
 ·cases e;cases VD.non.mp h;exact .x (.base .non)
 ·cases e;cases VD.bl.mp h;exact .x (.base (.bl _))
 ·cases e;cases VD.int.mp h;exact .x (.base (.int _))
 ·cases e;cases VD.str.mp h;exact .x (.base (.str _))
 ·cases e
  unfold VD at h
  cases h with
  | lst f q=>exact .x (tyL f)
 ·cases e
  unfold VD at h
  cases h with
  | tup f q=>exact .x (tyT f)
 ·cases e
  unfold VD at h
  cases h with
  | dG f _ _ _ _ _=>exact .d (.inr ⟨_,f⟩)
 ·cases e
  obtain ⟨a,vs,e1,h2,_⟩:=Jg h rfl
  subst e1
  exact .x (tyT h2)
 ·cases e
  unfold VD at h
  obtain ⟨a,vs,e1,h2,_⟩:=h
  subst e1
  exact .x (tyL h2)
 ·cases e
  unfold VD at h
  obtain ⟨a,o,es,rfl,h2,_⟩:=h
  exact .d (.inr ⟨_,h2⟩)
 ·unfold VD at h
  obtain ⟨a,h1,e1⟩:=h
  subst e1
  split at e
  ·rename_i xs hm
   cases e
   obtain ⟨ys,h2,_⟩:=r.at_ _ _ _ h1 hm
   exact .x (.base (.lst h2))
  ·rename_i xs hm
   cases e
   obtain ⟨ys,h2,_⟩:=r.at_ _ _ _ h1 hm
   exact .d (.inl h2)
  ·cases e
 ·cases e
theorem Zdc:CallR X (.builtin "isinstance") (Jd X.kw Yt):=by
 intro pins s σ H xs us Q I rv w
 obtain ⟨c,m,ds,r,hv,w⟩:=w
 unfold Yt at w
 split at w
 ·rename_i d n
  obtain ⟨v,v',e,h1,h2⟩:=VDs.two hv
  unfold VD at h2
  subst h2 e
  split at w
  ·rename_i t ht
   cases q:kitB t n with
   | none=>rw [q] at w;exact w.elim
   | some b =>
    rw [q] at w
    obtain ⟨u1,u2,rfl,r1,r2⟩:=vals2 rv
    cases r2
    obtain ⟨P,Z,p,hx⟩:=ZdW I r1 (ZeT r h1 ht)
    exact PySem.W.kia_one Z I.kIn p (kit_ty q) hx fun tk=>⟨.bl b,H,I.tok tk,rfl,XF.now r w (VD.bl.mpr rfl)⟩
  ·exact w.elim
 ·rename_i d ts
  obtain ⟨v,v',e,h1,h2⟩:=VDs.two hv
  subst e
  unfold VD at h2
  obtain ⟨a,vs,rfl,h3,h4⟩:=h2
  split at w
  ·rename_i t ns ht hn
   cases q:Wn t ns with
   | none=>rw [q] at w;exact w.elim
   | some b =>
    rw [q] at w
    obtain ⟨u1,u2,rfl,r1,r2⟩:=vals2 rv
    cases r2
    have e1:=ZeU h4 hn
    subst e1
    obtain ⟨its,rv2,⟨o,e2,hc,n,hd⟩,z⟩:=I.tuple h3
    have e3:=ZeV rv2
    obtain ⟨oc,od,dt,sl⟩:=o
    simp only at hc hd
    subst hc hd
    have e4:its=ns.map Value.type:=e3
    obtain ⟨P,Z,p,hx⟩:=ZdW I r1 (ZeT r h1 ht)
    exact PySem.W.kia_tup Z I.kIn p e2 (by rw [e4];exact ZdV q) hx fun tk=>⟨.bl b,H,I.tok tk,rfl,XF.now r w (VD.bl.mpr rfl)⟩
  ·exact w.elim
 ·exact w.elim
mutual
theorem DpA.dp {K:KW}:∀{v:V} {d:PyData},DpA K H v d→d.canLay0=true→Dp K H v d
 | _,_,.non,_ => .non
 | _,_,.bl b,_ => .bl b
 | _,_,.int i,_ => .int i
 | _,_,.str x,_ => .str x
 | _,_,.lst h r,e => .lst (RdL.sq h) (Az.dp r (by simpa [PyData.canLay0] using e))
 | _,_,.tup h r,e => .tup h (Az.dp r (by simpa [PyData.canLay0] using e))
 | _,_,.dG h q r,e=>by simp [PyData.canLay0] at e
theorem Az.dp {K:KW}:∀{vs:List V} {ds:List PyData},Az K H vs ds→PyData.canLayAll0 ds=true→DpAll K H vs ds
 | _,_,.nil,_ => .nil
 | _,_,.cons h r,e=>by
  simp only [PyData.canLayAll0,Bool.and_eq_true] at e
  exact .cons (DpA.dp h e.1) (Az.dp r e.2)
end
def inL (neg:Bool) (x y:D) (m:Store):OD:=match whole m x,whole m y with
 | some p,some (.list qs)=>if SeqAt.shaped p=true∧SeqAt.shaped (.list qs)=true then some (.p (.bool (if neg then !(qs.any fun z=>PyData.eqv z p) else qs.any fun z=>PyData.eqv z p)),m) else none
 | _,_=>none
theorem Zig (hu:X.A.units+65 < cLine):OpR X (compareOp .In) (rOf X.kw (inL false)):=by
 refine OpR.by_ (op_inD hu) fun x y H Q w=>?_
 obtain ⟨c,m,dx,dy,r,h1,h2,w⟩:=w
 unfold inL at w
 split at w
 ·rename_i p qs e1 e2
  split at w
  ·rename_i hs
   exact ⟨p,qs,(Va r 8 _ _ _ h1 e1).dp (SeqAt.canLay_of_shaped hs.1),(Va r 8 _ _ _ h2 e2).dp (SeqAt.canLay_of_shaped hs.2),hs.1,hs.2,.inl (XF.now r w (VD.bl.mpr rfl))⟩
  ·exact w.elim
 ·exact w.elim
/-- a text in a tuple of texts -/
def strsOf:List PyData→Option (List Str)
 | []=>some []
 | .str x::r=>(strsOf r).map (x::·)
 | _::_=>none
def KR (neg:Bool) (x y:D) (m:Store):OD:=match x,y with
 | .p (.str z),.p (.tuple qs)=>(strsOf qs).map fun ys=>(.p (.bool (if neg then !(ys.contains z) else ys.contains z)),m)
 | _,_=>none
theorem strs_cons {d:PyData} {ds:List PyData} {bs:List Str} (e:strsOf (d::ds)=some bs):∃k ks,d = .str k∧strsOf ds=some ks∧bs=k::ks:=by
 match d,e with
 | .str k,e =>
  have e:(strsOf ds).map (k::·)=some bs:=e
  simp only [Option.map_eq_some_iff] at e
  obtain ⟨ks,e1,e2⟩:=e
  exact ⟨k,ks,rfl,e1,e2.symm⟩
theorem ZeQ {K:KW}:∀{ds:List PyData} {vs:List V} {ys:List Str},RP K H vs ds→strsOf ds=some ys→vs=ys.map V.str
 | _,_,ys,.nil,e=>by cases e;rfl
 | _,_,ys,.cons (d:=d) h r,e=>by
  obtain ⟨k,ks,q1,q2,q3⟩:=strs_cons e
  subst q1 q3
  cases h
  rw [ZeQ r q2]
  rfl
theorem flat_strs:∀ys:List Str,(ys.map V.str).all flatV=true
 | []=>rfl
 | y::ys=>by simp [flatV,flat_strs ys]
theorem ZdI (z:Str):∀ys:List Str,inV (.str z) (ys.map V.str)=ys.contains z
 | []=>rfl
 | y::ys=>by
  have ih:=ZdI z ys
  unfold inV at ih ⊢
  rw [List.map_cons,List.any_cons,ih,List.contains_cons]
  congr 1
  show (y == z)=(z == y)
  exact Bool.beq_comm
theorem Zii:OpR X (compareOp .In) (rOf X.kw (KR false)):=by
 refine OpR.by_ op_in_seq fun x y H Q w=>?_
 obtain ⟨c,m,dx,dy,r,h1,h2,w⟩:=w
 unfold KR at w
 split at w
 ·rename_i z qs
  cases q:strsOf qs with
  | none=>rw [q] at w;exact w.elim
  | some ys =>
   rw [q] at w
   unfold VD at h2
   cases h2 with
   | @tup a xs _ f k =>
    have e:=ZeQ k q
    subst e
    refine ⟨a,_,rfl,.inr f,by rw [VD.str.mp h1];rfl,flat_strs ys,.inl (XF.now r w ?_)⟩
    rw [VD.str.mp h1,ZdI]
    exact VD.bl.mpr rfl
 ·exact w.elim
/-- one sign in a text -/
def KQ (neg:Bool) (x y:D) (m:Store):OD:=match x,y with
 | .p (.str y),.p (.str z)=>match y.cps.toList with
  | [n]=>some (.p (.bool (if neg then !decide (n∈z.cps.toList) else decide (n∈z.cps.toList))),m)
  | _=>none
 | _,_=>none
theorem one_sign {y:Str} {n:Nat} (e:y.cps.toList=[n]):y=⟨#[n]⟩:=by
 obtain ⟨⟨l⟩⟩:=y
 have e:l=[n]:=e
 subst e
 rfl
theorem Zih:OpR X (compareOp .In) (rOf X.kw (KQ false)):=by
 refine OpR.by_ op_in_sign fun x y H Q w=>?_
 obtain ⟨c,m,dx,dy,r,h1,h2,w⟩:=w
 unfold KQ at w
 split at w
 ·split at w
  ·rename_i hn
   exact ⟨_,_,by rw [VD.str.mp h1,one_sign hn],VD.str.mp h2,.inl (XF.now r w (VD.bl.mpr rfl))⟩
  ·exact w.elim
 ·exact w.elim
def VB:D→List D→Store→OD
 | .cell i,[d],m=>match m.at_ i with
  | some (.lst xs)=>if xs.length < sizeLine∧okIn d i=true then some (.p .none,m.set (.lst (xs++[d])) i) else none
  | _=>none
 | _,_,_=>none
theorem ZhN:MtR X "list.append" (Zez X.kw VB):=by
 refine MtR.by_ (show MtR X "list.append" rAppend from mt_append) fun x xs H Q w=>?_
 obtain ⟨c,m,dx,ds,r,h1,h2,w⟩:=w
 unfold VB at w
 split at w
 ·rename_i i d
  split at w
  ·rename_i xs hm
   split at w
   ·rename_i hz
    obtain ⟨v,e,h3⟩:=VDs.M9 h2
    unfold VD at h1
    obtain ⟨a,h4,h5⟩:=h1
    obtain ⟨vs,h6,h7⟩:=r.at_ _ _ _ h4 hm
    refine ⟨a,vs,v,h5,e,h6,by rw [h7.length];exact hz.1,.inl ?_⟩
    exact w c .non _ (r.put h4 hm h6 (h7.append (VDs.one (VD.qlL h3 hz.2)))) (VD.non.mpr rfl)
   ·exact w.elim
  ·exact w.elim
 ·exact w.elim
end
end L2.Dn
namespace L2.Dn
open PySem PySem.Spec PyProof.Rows L2
section
variable {X:Cx} {W:WX} {a b e:Expr} {es:List Expr} {fa fb f:FE} {pos:Pos} {c:Anc} {ρ:Rho} {m:Store} {σ:St} {H:Hp}
def ZiG (K:PySem.W.Frag):V→V→Hp→VK→Prop:=fun o i H Q=>∃p xs k v,o = .ref p∧i = .int k∧0≤k∧SqL K H p xs∧xs[k.toNat]?=some v∧Q v H
theorem Zgz:PGet X (ZiG X.K):=by
 intro pins s σ H o i ov iv Q I ro ri h
 obtain ⟨p,xs,k,v,rfl,rfl,h0,hq,hx,q⟩:=h
 cases ro
 obtain ⟨t,rfl⟩:=ri
 obtain ⟨its,r,pl,hz⟩:=I.list hq
 obtain ⟨u,e1,e2⟩:=r.get hx
 have hl:k.toNat < xs.length:=(List.getElem?_eq_some_iff.mp hx).1
 have:=line63
 exact wpAny_getItem_list pl.isList h0 (by omega) (by simpa using e1) ⟨v,H,I,e2,q⟩
def getL (o i:D) (m:Store):Option D:=match i with
 | .p (.int k)=>if 0≤k then (match Ym o m with
  | some xs=>xs[k.toNat]?
  | none=>none) else none
 | _=>none
def Y8 (g:D→D→Store→OD) (fo fi fe:FE):FS:=fun ρ m=>(fo ρ m).M5 ρ fun o m1=>(fi ρ m1).M5 ρ fun i m2=>match getL o i m2 with
 | some x=>(fe ρ m2).M5 ρ fun y m3=>match g x y m3 with
  | some (z,m4)=>(match Y6 o i z m4 with
   | some m5 => .nx ρ m5
   | none => .stuck)
  | none => .stuck
 | none => .stuck
theorem ZfM {o i:Expr} {fo fi fe:FE} {op:Operator} {g:D→D→Store→OD} {tpos:Pos} (hp:PIp X op (rOf X.kw g)) (ho:DE X W o fo) (hi:DE X W i fi) (he:DE X W e fe)
  (ha:∀ov iv new,augStore i ov iv new=(do holding [new,ov,iv] (setItem ov iv new);release [new,ov,iv] [];pure .next):=by intros;rfl):DS X W (.AugAssign (.Subscript o i tpos) op e pos) (Y8 g fo fi fe):=fun c ρ m σ H En r s w =>
 JV (ps_augS Zz Zz Zgz Zz hp set_list ha) (ho.BZ r s w fun o1 m1 c1 vo H1 r1 s1 g1 h1 w1=>hi.BZ r1 s1 w1 fun i1 m2 c2 vi H2 r2 s2 g2 h2 w2=>by
  split at w2
  ·rename_i x hx
   unfold getL at hx
   split at hx
   ·rename_i k
    split at hx
    ·rename_i h0
     split at hx
     ·rename_i xs hxs
      obtain ⟨a,vs,e1,k1,k2⟩:=YS r2 (g2.vd h1) hxs
      obtain ⟨v,k3,k4⟩:=k2.get hx
      refine ⟨a,vs,k,v,e1,VD.int.mp h2,h0,RdL.sq k1,k3,?_⟩
      refine he.BZ r2 s2 w2 fun y m3 c3 vy H3 r3 s3 g3 h3 w3=>?_
      split at w3
      ·rename_i z m4 hg
       refine ⟨c3,m3,x,y,r3,g3.vd k4,h3,?_⟩
       rw [hg]
       intro c4 vz H4 g4 hz
       have w4:=Xg.shift g4 w3
       split at w4
       ·rename_i m5 hs
        exact ZeK g4.rel (g4.vd (g3.vd (g2.vd h1))) (g4.vd (g3.vd h2)) hz hs fun H' g5=>w4 c4 σ H' g5 (g5.slots (g4.slots s3))
       ·exact w4.elim
      ·exact w3.elim
     ·cases hx
    ·cases hx
   ·cases hx
  ·exact w2.elim)
theorem Zg6:PIp X .Add (rOf X.kw Y7):=fun pins s σ H x y v u Q I rx ry h=>by
 obtain ⟨c,m,dx,dy,r,h1,h2,w⟩:=h
 unfold Y7 intOp at w
 split at w
 ·exact ip_add pins s σ H x y v u Q I rx ry ⟨_,_,VD.int.mp h1,VD.int.mp h2,XF.now r w (VD.int.mpr rfl)⟩
 ·exact w.elim
end
end L2.Dn
namespace L2.Dn
open PySem PySem.Spec PyProof.Rows L2
/-- the heap that tracks the script alone -/
def ZaG (a:Addr) (vs:List Value) (ns:List Int):Hp:=fun b=>if b=a then some (.frz { cls := .type "list",data := .seq vs.toArray } (.lst (ns.map V.int))) else none
theorem Zeg {a b:Addr} {vs:List Value} {ns:List Int} {o:HO} (h:ZaG a vs ns b=some o):b=a∧o = .frz { cls := .type "list",data := .seq vs.toArray } (.lst (ns.map V.int)):=by
 unfold ZaG at h
 split at h
 ·rename_i e
  exact ⟨e,(Option.some.inj h).symm⟩
 ·cases h
def nums (ns:List Int):D := .p (.list (ns.map PyData.int))
theorem Zed {K:KW} {H:Hp}:∀ns:List Int,RP K H (ns.map V.int) (ns.map PyData.int)
 | [] => .nil
 | n::ns => .cons (.int n) (Zed ns)
section
variable {P:Program} {w:World} {K:PySem.W.Frag} {mg mb:Str→Option Value} {k:Nat} {fa a:Addr} {fd:FuncData} {x:Str} {den:Den} {s₁:Shared} {vs:List Value} {ns:List Int}
theorem ZdX (H:Hp) (KX:K.In s₁.heap) (hns:s₁.heap.Ns mainGlobals mg) (hb:s₁.heap.Ns builtinsNs mb) (hbb:∀x:Str,x≠"__name__"→mb x=bootBuiltins x) (hlim:s₁.heap.NoLimit) (hg:s₁.gens=#[])
  (ha:s₁.heap.get? a=some { cls := .type "list",data := .seq vs.toArray }) (hr:Room k callerA)
  (F:∀base:Heap,K.In base→base.Ns mainGlobals mg→FnG P w K mg base k fa fd [x] (spD ⟨K,w,mg,none⟩ 1 den)) (hbind:∀(s:Shared) (u:Value),BindsTo s fd ⟨[u],[]⟩ [(x,u)])
  (hden:∃g,den [nums ns] [] = .ok (.p (.bool true)) g)
  (hH:∀b o,H b=some o→b=a∧o = .frz { cls := .type "list",data := .seq vs.toArray } (.lst (ns.map V.int))) (hf:FzL K H a (ns.map V.int)) (hok:HOk P w H s₁.heap) (hK:H a=none∨K.lookup a=none) :
  codeAny (model P w) callerA (.call (.ref fa) ⟨[.ref a],[]⟩) (fun r s'=>r = .ok (.ret (.bool true))∧OldK s₁.heap s'.heap∧s'.os=s₁.os∧AllBare s'.gens) s₁:=by
 have free:∀b o,s₁.heap.get? b=some o→(∀vs n,o.data ≠ .seq vs n)→H b=none:=fun b o e nd=>by
  cases q:H b with
  | none=>rfl
  | some u =>
   obtain ⟨rfl,_⟩:=hH b u q
   rw [ha] at e
   cases e
   exact (nd _ _ rfl).elim
 have nsK:∀{b:Addr} {m:Str→Option Value},s₁.heap.Ns b m→(hidT s₁.heap H).Ns b m:=fun {b m} ⟨o,es,ep,e,d,r⟩ =>
  ⟨o,es,ep,hidT_get e (free b o e fun _ _ z=>by rw [d] at z;cases z),d,r⟩
 have kb:K.In (hidT s₁.heap H):=fun b o e=>hidT_get (KX b o e) (by
  cases q:H b with
  | none=>rfl
  | some u =>
   obtain ⟨rfl,_⟩:=hH b u q
   rcases hK with z | z
   ·rw [q] at z;cases z
   ·rw [z] at e;cases e)
 have hM:Mod K mg (hidT s₁.heap H):=⟨kb,nsK hns,⟨mb,nsK hb,hbb⟩,let ⟨mc,h1,h2⟩:=hlim;⟨mc,nsK h1,h2⟩⟩
 have e0:Env0 P w K mg (hidT s₁.heap H) callerA [] s₁ H :=
  {frames:=rfl,mod:=hM,bs:=fun b o e=>of_hidT e,bsz:=Nat.le_of_eq (hidT_size _ _),funs:=trivial,frf:=fun b hb=>absurd (show b∈([]:List Addr) from hb) List.not_mem_nil,hok:=hok,bare := .of_eq hg }
 have R0:Q9 ⟨K,w,mg,none⟩ ⟨[],[]⟩ ⟨[],[]⟩ H:=by
  refine ⟨⟨rfl,rfl⟩,fun i j b h1=>?_,fun i b x h1=>?_⟩
  ·cases i <;> cases h1
  ·cases i <;> cases h1
 have want:spD ⟨K,w,mg,none⟩ 1 den [.ref a] H (fun v _=>v = .bl true) (fun _ _ _=>False):=by
  obtain ⟨g,e⟩:=hden
  refine ⟨[],[nums ns],[],rfl,R0,VDs.one (by unfold nums VD;exact .lst hf (Zed ns)),?_⟩
  rw [e]
  exact fun cg' v H' _ hv=>VD.bl.mp hv
 refine codeAny_mono ((F _ kb (nsK hns)).go callerA [] s₁ H ⟨[.ref a],[]⟩ [.ref a] [.ref a] _ _ rfl hr e0 (hbind s₁ (.ref a)) (.cons rfl .nil) want) fun out s' q=>?_
 match out,q with
 | .error e,q=>obtain ⟨_,_,_,_,_,_,_,_,_,_,_,_,z⟩:=q;exact z.elim
 | .ok (.ret u),q =>
  obtain ⟨v,H',os,bare,un,hok',rv,ev⟩:=q
  have ev:v = .bl true:=ev
  subst ev
  obtain rfl:u=Value.bool true:=rv
  refine ⟨rfl,OldK.of_keep fun b o e=>?_,os,bare⟩
  cases q:H b with
  | none=>exact un.keep b o e q (fun z=>absurd (show b∈([]:List Addr) from z) List.not_mem_nil) List.not_mem_nil
  | some u =>
   obtain ⟨_,rfl⟩:=hH b u q
   have z1:=(hok b _ q).1
   have z2:=(hok' b _ (un.frzs b _ _ q)).1
   rw [e] at z1
   rw [z2,z1]
theorem Zhn (KX:K.In s₁.heap) (hns:s₁.heap.Ns mainGlobals mg) (hb:s₁.heap.Ns builtinsNs mb) (hbb:∀x:Str,x≠"__name__"→mb x=bootBuiltins x) (hlim:s₁.heap.NoLimit) (hg:s₁.gens=#[])
  (ha:s₁.heap.get? a=some { cls := .type "list",data := .seq vs.toArray }) (hi:IntsAre vs ns) (hl:ns.length≤sizeLine) (hr:Room k callerA)
  (F:∀base:Heap,K.In base→base.Ns mainGlobals mg→FnG P w K mg base k fa fd [x] (spD ⟨K,w,mg,none⟩ 1 den)) (hbind:∀(s:Shared) (u:Value),BindsTo s fd ⟨[u],[]⟩ [(x,u)])
  (hden:∃g,den [nums ns] [] = .ok (.p (.bool true)) g) :
  codeAny (model P w) callerA (.call (.ref fa) ⟨[.ref a],[]⟩) (fun r s'=>r = .ok (.ret (.bool true))∧OldK s₁.heap s'.heap∧s'.os=s₁.os∧AllBare s'.gens) s₁:=by
 have rv:=vals_ints hi
 have lv:=hi.length
 cases hk:K.lookup a with
 | some o =>
  have e:=KX a o hk
  rw [ha] at e
  cases e
  refine ZdX (fun _=>none) KX hns hb hbb hlim hg ha hr F hbind hden (fun b o z=>nomatch z) (.inr ⟨vs.toArray,0,hk,?_,by simpa using rv⟩) (fun b o z=>nomatch z) (.inl rfl)
  rw [List.size_toArray,lv]
  exact hl
 | none =>
  have ta:ZaG a vs ns a=some (.frz { cls := .type "list",data := .seq vs.toArray } (.lst (ns.map V.int))):=if_pos rfl
  refine ZdX (ZaG a vs ns) KX hns hb hbb hlim hg ha hr F hbind hden (fun b o z=>Zeg z) (.inl ⟨_,ta⟩) (fun b o z=>?_) (.inr hk)
  obtain ⟨rfl,rfl⟩:=Zeg z
  exact ⟨ha,by rw [List.length_map];exact hl,vs,_,rv,ha⟩
end
/-- the goal that k_head leaves,from the law's denotation -/
theorem quL {l:PySem.W.OpenLaw} {n k:Nat} {q:Program} {loose:List Str} {XP:(Str→Option Value)→Heap→Prop} {YP:World→Heap→Prop} {d:DefRec} {K:Params→PySem.W.Frag} {den:Den} {x:Str}
  (hn:l.most=some n) (hn2:n≤sizeLine) (hdf:d.params.defaults=[]) (hr:Room k callerA) (hY:∀(w:World) (h:Heap),YP w h→(K w.params).In h)
  (F:∀(w:World) (mg:Str→Option Value) (fa:Addr) (h:Heap),(K w.params).In h→h.Ns mainGlobals mg→mg d.name=some (.ref fa) →
   ∃fd:FuncData,(∀(s:Shared) (u:Value),BindsTo s fd ⟨[u],[]⟩ [(x,u)])∧∀base:Heap,(K w.params).In base→base.Ns mainGlobals mg→FnG l.prog w (K w.params) mg base k fa fd [x] (spD ⟨K w.params,w,mg,none⟩ 1 den))
  (hden:∀ns:List Int,ns.length≤n→∃g,den [nums ns] [] = .ok (.p (.bool true)) g):PySem.W.WalkO q loose XP YP l.row.toRowW d [] (fun f vs=>PySem.call f vs):=by
 refine Att.attach_call hn hdf fun w s₀ s₁ mg mb fa o pm cd doc a vs ns G Y _ _ _ hmg hobj hints hlen hg=>?_
 obtain ⟨fd,hb,hF⟩:=F w mg fa _ (hY w _ Y) G.T.g hmg
 exact Zhn (hY w _ Y) G.T.g G.T.b G.T.builtins G.T.nolimit hg hobj hints (Nat.le_trans hlen hn2) hr hF hb (hden ns hlen)
end L2.Dn
namespace L2.Dn
open PySem PySem.Spec PyProof.Rows L2
def ZX (g h:D→D→Store→OD):D→D→Store→OD:=fun x y m=>match g x y m with
 | some r=>some r
 | none=>h x y m
def WR (g h:D→Option Int→Option Int→Store→OD):D→Option Int→Option Int→Store→OD:=fun x lo hi m=>match g x lo hi m with
 | some r=>some r
 | none=>h x lo hi m
section
variable {X:Cx}
theorem ZeA {K:KW} {g h:D→D→Store→OD} {x y:V} {H:Hp} {Q:VK} (w:rOf K (ZX g h) x y H Q):rOf K g x y H Q∨rOf K h x y H Q:=by
 obtain ⟨c,m,dx,dy,r,h1,h2,w⟩:=w
 unfold ZX at w
 cases q:g dx dy m with
 | some z=>rw [q] at w;exact .inl ⟨c,m,dx,dy,r,h1,h2,by rw [q];exact w⟩
 | none=>rw [q] at w;exact .inr ⟨c,m,dx,dy,r,h1,h2,w⟩
theorem OpR.alt {fn:Value→Value→Sem Value} {g h:D→D→Store→OD} (a:OpR X fn (rOf X.kw g)) (b:OpR X fn (rOf X.kw h)):OpR X fn (rOf X.kw (ZX g h)):=fun pins s σ H x y v u Q I rx ry w =>
 (ZeA w).elim (a pins s σ H x y v u Q I rx ry) (b pins s σ H x y v u Q I rx ry)
theorem SlR.alt {g h:D→Option Int→Option Int→Store→OD} (a:SlR X (Je X.kw g)) (b:SlR X (Je X.kw h)):SlR X (Je X.kw (WR g h)):=fun pins s σ H x v vl vu lo hi sl Q I rx hs pl pu w=>by
 obtain ⟨c,m,dx,r,h1,w⟩:=w
 unfold WR at w
 cases q:g dx lo hi m with
 | some z=>rw [q] at w;exact a pins s σ H x v vl vu lo hi sl Q I rx hs pl pu ⟨c,m,dx,r,h1,by rw [q];exact w⟩
 | none=>rw [q] at w;exact b pins s σ H x v vl vu lo hi sl Q I rx hs pl pu ⟨c,m,dx,r,h1,w⟩
def Zq (z:Md):=ZX Y7 (ZX WN (ZX (Vy z) WQ))
theorem Yr (z:Md):OpR X (binaryOp .Add) (rOf X.kw (Zq z)):=OpR.alt Zh3 (OpR.alt Zh5 (OpR.alt (Zh4 z) Zh6))
def V1:=ZX ZbV ZbX
theorem Zek:OpR X (binaryOp .Mult) (rOf X.kw V1):=OpR.alt Zil Zin
def slD (z:Md):=WR (slL z) (WR slS slT)
theorem ZiW (z:Md):SlR X (Je X.kw (slD z)):=SlR.alt (ZiX z) (SlR.alt ZiY ZiZ)
/-- two texts,whatever they hold;else deep data -/
def eqS (neg:Bool):D→D→Store→OD
 | .p (.str x),.p (.str y),m=>some (.p (.bool (if neg then !(x == y) else x == y)),m)
 | _,_,_=>none
theorem Zia:OpR X (compareOp .Eq) (rOf X.kw (eqS false)):=by
 refine OpR.by_ L2.op_eq fun x y H Q w=>?_
 obtain ⟨c,m,dx,dy,r,h1,h2,w⟩:=w
 unfold eqS at w
 split at w
 ·cases VD.str.mp h1
  cases VD.str.mp h2
  exact ⟨rfl,by rw [dec_str];exact .inl (XF.now r w (VD.bl.mpr rfl))⟩
 ·exact w.elim
theorem Zir:OpR X (compareOp .NotEq) (rOf X.kw (eqS true)):=by
 refine OpR.by_ L2.op_ne fun x y H Q w=>?_
 obtain ⟨c,m,dx,dy,r,h1,h2,w⟩:=w
 unfold eqS at w
 split at w
 ·cases VD.str.mp h1
  cases VD.str.mp h2
  exact ⟨rfl,by rw [dec_str];exact .inl (XF.now r w (VD.bl.mpr rfl))⟩
 ·exact w.elim
def eqG (neg:Bool):=ZX (eqS neg) (eqP neg)
theorem ZaI (hu:X.A.units+64 < cLine):OpR X (compareOp .Eq) (rOf X.kw (eqG false)):=OpR.alt Zia (Zh9 hu)
theorem Zio (hu:X.A.units+64 < cLine):OpR X (compareOp .NotEq) (rOf X.kw (eqG true)):=OpR.alt Zir (Ziq hu)
def inD:=ZX (KQ false) (ZX (KR false) (inL false))
theorem Zid (hu:X.A.units+65 < cLine):OpR X (compareOp .In) (rOf X.kw inD):=OpR.alt Zih (OpR.alt Zii (Zig hu))
theorem u65 {k:Nat} {A:Around} (hr:Room k A):A.units+65 < cLine:=by have:=hr.un;omega
theorem u64 {k:Nat} {A:Around} (hr:Room k A):A.units+64 < cLine:=by have:=hr.un;omega
end
/-- a tuple of texts of the module -/
structure KTup (K:PySem.W.Frag) (mg:Str→Option Value) (x:Str) (ys:List Str) (t:Addr) (its:Array Value) (n:Nat) (sl:Array (Option Value)):Prop where
 g:mg x=some (.ref t)
 k:K.lookup t=some ⟨.type "tuple",none,.seq its n,sl⟩
 z:its.size≤sizeLine
 v:Vals (ys.map V.str) its.toList
theorem ZeP {K:KW} {H:Hp}:∀ys:List Str,RP K H (ys.map V.str) (ys.map PyData.str)
 | [] => .nil
 | y::ys => .cons (.str y) (ZeP ys)
theorem KTup.dp {K:KW} {mg:Str→Option Value} {x:Str} {ys:List Str} {t:Addr} {its:Array Value} {n:Nat} {sl:Array (Option Value)} (h:KTup K mg x ys t its n sl) (H:Hp):DpZ K H (.ref t) (.tuple (ys.map PyData.str)) :=
 .tup (.inr ⟨_,its,n,h.k,rfl,rfl,h.z,h.v⟩) (ZeP ys)
section
variable {X:Cx} {W:WX} {pos:Pos} {x:Str}
theorem Za9 {N:List Str} {sc scope:Scope} {own:List (Str×Nat)} (h:blkC N sc scope own=true):blkC N sc scope own=true:=h
end
end L2.Dn
namespace L2.Dn
open PySem
abbrev Ent:=NestedKey×Value×Value
def Yq (w:World) (x:Ent):DictEntry:=⟨x.1.hash w,x.2.1,x.2.2⟩
/-- the value v is the key k -/
def IsK (h:Heap) (k:NestedKey) (v:Value):Prop:=NestedIs h k v∧k.depth≤8
/-- at d: a dict with these entries,in their order -/
def SQ (w:World) (h:Heap) (d:Addr) (xs:List Ent):Prop :=
 ∃o es ep,h.get? d=some o∧o.ExactDict∧o.data = .dict es ep∧es.toList=xs.map (Yq w)∧(∀x∈xs,IsK h x.1 x.2.1)∧(xs.map (·.1)).Nodup
section
variable {P:Program} {w:World} {A:Around} {E:Value→Shared→Prop} {s:Shared}
theorem Ve {es:Array DictEntry} {xs:List Ent} (he:es.toList=xs.map (Yq w)) (j:Nat):es[j]?=(xs[j]?).map (Yq w):=by
 rw [←List.getElem?_map,←he]
 simp
theorem Kz {es:Array DictEntry} {xs:List Ent} (he:es.toList=xs.map (Yq w)):es.size=xs.length:=by
 have:=congrArg List.length he
 simpa using this
theorem Zdr {es:Array DictEntry} {xs:List Ent} (he:es.toList=xs.map (Yq w)) {e:DictEntry} (h:e∈es):∃x∈xs,e=Yq w x:=by
 have h1:e∈es.toList:=by simpa using h
 rw [he] at h1
 obtain ⟨x,hx,q⟩:=List.mem_map.mp h1
 exact ⟨x,hx,q.symm⟩
theorem key_one {xs:List Ent} (hn:(xs.map (·.1)).Nodup) {i j:Nat} {k:NestedKey} {p q:Value×Value} (hi:xs[i]?=some (k,p)) (hj:xs[j]?=some (k,q)):i=j:=by
 have a:(xs.map (·.1))[i]?=some k:=by simp [hi]
 have b:(xs.map (·.1))[j]?=some k:=by simp [hj]
 exact (List.getElem?_inj (List.getElem?_eq_some_iff.mp a).1 hn).mp (a.trans b.symm)
theorem ZdK {k:NestedKey} {v:Value} (h:IsK s.heap k v) {Q:Bool→Shared→Prop} (q:Q true s):wpAny (model P w) A (eqIsQuiet 8 v) Q E s:=quiet_key k v 8 s h.1 h.2 A E Q q
theorem Wl {x y:NestedKey} {a b:Value} (hu:A.units+8 < cLine) (hx:IsK s.heap x a) (hy:IsK s.heap y b) {Q:Bool→Shared→Prop} (q:Q (decide (x=y)) s):wpAny (model P w) A (eqBool a b) Q E s :=
 eqAt_key x y A s a b hx.1 hy.1 (by have:=hx.2;omega) P w E Q (by rw [←NestedKey.decide_eq];exact q)
theorem ZdJ {k:NestedKey} {v:Value} (hu:A.units+8 < cLine) (h:IsK s.heap k v) {Q:Int→Shared→Prop} (q:Q (k.hash w) { s with toks:=s.toks+k.draws }):wpAny (model P w) A (pyHash v) Q E s :=
 pyHash_key k v A s Q h.1 (by have:=h.2;omega) q
theorem ZcW {k:NestedKey} {v:Value} {st:List Value} {Q:Bool→Shared→Prop} (hk:IsK s.heap k v) (hs:∀u∈st,∃y,IsK s.heap y u) (q:Q false s):wpAny (model P w) A (tableMayTell v st) Q E s:=by
 unfold tableMayTell
 split
 ·exact wpAny_pure q
 ·refine wpAny_bind (ZdK hk ?_)
  simp only [Bool.not_true,Bool.false_eq_true,if_false]
  refine wpAny_bind (wpAny_forIn_list _ (fun r b s'=>s'=s∧b=(none,())∧∀u∈r,∃y,IsK s.heap y u) _ ?_ ?_ _ _ ⟨rfl,rfl,hs⟩)
  ·rintro u r b s' ⟨rfl,rfl,hr⟩
   obtain ⟨y,hy⟩:=hr u List.mem_cons_self
   refine wpAny_bind (ZdK hy ?_)
   simp only [Bool.not_true,Bool.false_eq_true,if_false]
   exact wpAny_pure ⟨rfl,rfl,fun z hz=>hr z (List.mem_cons_of_mem _ hz)⟩
  ·rintro b s' ⟨rfl,rfl,_⟩
   exact wpAny_pure q
theorem Zg9 {h:Heap} {k:NestedKey} {x:Str} {t:Tok} (hk:NestedIs h k (.str x t)):k = .text x:=by cases hk;rfl
/-- where a key stands -/
theorem find_key {d:Addr} {v:Value} {o:Obj} {es:Array DictEntry} {ep:Nat} {xs:List Ent} {k:NestedKey} {Q:Option Nat→Shared→Prop} (hu:A.units+8 < cLine) (hkey:IsK s.heap k v) (ho:s.heap.get? d=some o) (hd:o.data = .dict es ep)
  (he:es.toList=xs.map (Yq w)) (his:∀x∈xs,IsK s.heap x.1 x.2.1) (hn:(xs.map (·.1)).Nodup)
  (q0:(∀(j:Nat) (p:Value×Value),xs[j]?≠some (k,p))→Q none s) (q1:∀(j:Nat) (p:Value×Value),xs[j]?=some (k,p)→Q (some j) s):wpAny (model P w) A (dictFind d v (k.hash w)) Q E s:=by
 have hz:=Kz he
 let pw:Nat→Bool:=fun i=>(es[i]?.map (·.hash)) == some (k.hash w)
 have hpw:∀(j:Nat) (p:Value×Value),xs[j]?=some (k,p)→pw j=true:=fun j p hj=>by
  show ((es[j]?.map (·.hash)) == some (k.hash w))=true
  rw [Ve he j,hj]
  simp [Yq]
 have hst:∀u∈(placesWithHash es.size (fun i=>es[i]?.map (·.hash)) (k.hash w)).filterMap (fun i=>es[i]?.map (·.key)),∃y,IsK s.heap y u:=fun u hu'=>by
  obtain ⟨i,_,hi⟩:=List.mem_filterMap.mp hu'
  cases hei:es[i]? with
  | none=>rw [hei] at hi;cases hi
  | some e =>
   rw [hei] at hi
   obtain rfl:e.key=u:=by simpa using hi
   obtain ⟨x,hx,rfl⟩:=Zdr he (Array.mem_of_getElem? hei)
   exact ⟨x.1,his x hx⟩
 have at_:∀{x:Nat},x < es.size→∃y b u,xs[x]?=some (y,b,u)∧IsK s.heap y b∧es[x]?=some ⟨y.hash w,b,u⟩:=fun {x} hx=>by
  have hx':x < xs.length:=by omega
  refine ⟨xs[x].1,xs[x].2.1,xs[x].2.2,List.getElem?_eq_getElem hx',his _ (List.getElem_mem hx'),?_⟩
  rw [Ve he x,List.getElem?_eq_getElem hx']
  rfl
 -- the walk over the places,whichever
 have old:wpAny (model P w) A (dictWalkPlain d v (k.hash w) es (placesWithHash es.size (fun i=>es[i]?.map (·.hash)) (k.hash w))) Q E s:=by
  refine wpAny_bind (wpAny_forIn_list _ (fun r b s'=>s'=s∧b=(none,())∧∃i,r=(List.range' i (es.size - i)).filter pw∧i≤es.size∧∀j p,j < i→xs[j]?≠some (k,p)) _ ?_ ?_ _ _
   ⟨rfl,rfl,0,by rw [placesWithHash,List.range_eq_range',Nat.sub_zero],Nat.zero_le _,fun _ _ h=>absurd h (Nat.not_lt_zero _)⟩)
  ·rintro x r b s' ⟨rfl,rfl,i,hr,hi,hno⟩
   obtain ⟨h1,h2,h3,h4,h5⟩:=filter_range'_cons _ _ _ _ _ hr.symm
   have hlt:x < es.size:=by omega
   obtain ⟨y,b,u,k1,k2,k3⟩:=at_ hlt
   have hr':r=(List.range' (x+1) (es.size - (x+1))).filter pw:=by rw [h5];congr 2;omega
   have nx:¬y=k→∀j p,j < x+1→xs[j]?≠some (k,p):=fun ne j p hj e=>by
    by_cases c1:j < i
    ·exact hno j p c1 e
    ·by_cases c2:j < x
     ·have:=h4 j (by omega) c2
      rw [hpw j p e] at this
      cases this
     ·have:j=x:=by omega
      subst this
      rw [k1] at e
      cases e
      exact ne rfl
   rw [k3]
   dsimp only
   by_cases hh:(y.hash w == k.hash w)=true
   ·rw [if_pos hh]
    refine wpAny_bind (wpAny_dictEpoch ho hd (wpAny_bind (Wl hu k2 hkey (wpAny_bind (wpAny_dictEpoch ho hd ?_)))))
    rw [if_neg (by simp)]
    by_cases hk:y=k
    ·rw [decide_eq_true hk]
     subst hk
     exact wpAny_bind (wpAny_rule (wpAny_pure (wpAny_pure (q1 x _ k1))))
    ·rw [decide_eq_false hk]
     exact wpAny_bind (wpAny_rule (wpAny_pure ⟨rfl,rfl,x+1,hr',hlt,nx hk⟩))
   ·rw [if_neg hh]
    exact wpAny_pure ⟨rfl,rfl,x+1,hr',hlt,nx fun e=>hh (by rw [e];simp)⟩
  ·rintro b s' ⟨rfl,rfl,i,hr,hi,hno⟩
   refine wpAny_pure (q0 fun j p e=>?_)
   by_cases c1:j < i
   ·exact hno j p c1 e
   ·have hj:j < es.size:=by rw [hz];exact (List.getElem?_eq_some_iff.mp e).1
    have:=List.filter_eq_nil_iff.mp hr.symm j (List.mem_range'_1.mpr ⟨by omega,by omega⟩)
    exact this (hpw j p e)
 have hany:∀a,v = .ref a→¬(es.any fun e=>e.key == Value.ref a && e.hash != k.hash w)=true:=fun a hv h=>by
  rw [←Array.any_toList,List.any_eq_true] at h
  obtain ⟨e,h1,h2⟩:=h
  obtain ⟨x,hx,rfl⟩:=Zdr he (by simpa using h1)
  simp only [Yq,Bool.and_eq_true,beq_iff_eq,bne_iff_ne,ne_eq] at h2
  have:=(his x hx).1
  rw [h2.1,←hv] at this
  exact h2.2 (by rw [NestedIs.inj _ _ _ this hkey.1])
 unfold dictFind
 try with_reducible refine wpAny_holding ?_
 refine wpAny_bind (wpAny_dictEntries ho hd ?_)
 dsimp only
 by_cases hall:((v::(placesWithHash es.size (fun i=>es[i]?.map (·.hash)) (k.hash w)).filterMap fun i=>es[i]?.map (·.key)).all carriedByValue)=true
 ·rw [if_pos hall]
  split
  next x t =>
   split
   next hs =>
    obtain rfl:=Zg9 hkey.1
    have hf:∀(j:Nat) (y:NestedKey) (b u:Value),xs[j]?=some (y,b,u)→(b.isStr x=true↔y = .text x):=fun j y b u e=>by
     have h1:=(his _ (List.mem_of_getElem? e)).1
     have h2:isExactStrKey b=true:=by
      have hj:es[j]?=some ⟨y.hash w,b,u⟩:=by rw [Ve he j,e];rfl
      have:=Array.all_eq_true'.mp hs _ (Array.mem_of_getElem? hj)
      exact this
     cases h1 with
     | text x' t'=>simp [Value.isStr]
     | none=>cases h2
     | bool=>cases h2
     | int=>cases h2
     | tup=>cases h2
    unfold foundByValue
    cases hi:es.findIdx? (fun e=>e.key.isStr x) with
    | none =>
     refine wpAny_pure (q0 fun j p e=>?_)
     have hj:es[j]?=some ⟨NestedKey.hash w (.text x),p.1,p.2⟩:=by rw [Ve he j,e];rfl
     have:=Array.findIdx?_eq_none_iff.mp hi _ (Array.mem_of_getElem? hj)
     have h2:=(hf j _ _ _ e).mpr rfl
     rw [h2] at this
     cases this
    | some i =>
     obtain ⟨hlt,h1,_⟩:=Array.findIdx?_eq_some_iff_getElem.mp hi
     obtain ⟨y,b,u,k1,k2,k3⟩:=at_ hlt
     have hk3:es[i]=⟨y.hash w,b,u⟩:=by
      rw [Array.getElem?_eq_getElem hlt] at k3
      exact Option.some.inj k3
     rw [hk3] at h1
     obtain rfl:=(hf i y b u k1).mp h1
     simp only [k3]
     refine wpAny_bind (wpAny_dictEpoch ho hd (wpAny_bind (Wl hu k2 hkey (wpAny_bind (wpAny_dictEpoch ho hd ?_)))))
     rw [if_neg (by simp),decide_eq_true rfl]
     exact wpAny_bind (wpAny_rule (wpAny_pure (q1 i _ k1)))
   next=>exact old
  next=>exact old
 ·rw [if_neg hall]
  have qvZ:∀x t,v = .str x t→¬(es.all fun e=>isExactStrKey e.key)=true:=fun x t hv hs=>hall (by
   rw [List.all_cons,hv]
   refine List.all_eq_true.mpr fun u hu'=>?_
   obtain ⟨i,_,hi⟩:=List.mem_filterMap.mp hu'
   cases hei:es[i]? with
   | none=>rw [hei] at hi;cases hi
   | some e =>
    rw [hei] at hi
    obtain rfl:e.key=u:=by simpa using hi
    have h2:=Array.all_eq_true'.mp hs _ (Array.mem_of_getElem? hei)
    cases hk:e.key with
    | ref a=>rw [hk] at h2;cases h2
    | _=>rfl)
  split
  next x t =>
   rw [if_neg (qvZ x t rfl)]
   (
   by_cases one:((placesWithHash es.size (fun i=>es[i]?.map (·.hash)) (k.hash w)).filterMap (fun i=>es[i]?.map (·.key)) == [Value.str x t])=true <;>
   (first | rw [if_pos one] | rw [if_neg one]) <;> (first | refine wpAny_bind (wpAny_pure ?_) | refine wpAny_bind (ZcW hkey hst ?_)) <;> (
    rw [if_neg (by simp)]
    refine wpAny_bind (wpAny_forIn_list _ (fun r b s'=>s'=s∧∃i hit,b=(none,hit)∧r=(List.range' i (es.size - i)).filter pw∧i≤es.size∧((hit=none∧∀j p,j < i→xs[j]?≠some (k,p))∨∃j p,hit=some j∧j < i∧xs[j]?=some (k,p))) _ ?_ ?_ _ _
     ⟨rfl,0,none,rfl,by rw [placesWithHash,List.range_eq_range',Nat.sub_zero],Nat.zero_le _,.inl ⟨rfl,fun _ _ h=>absurd h (Nat.not_lt_zero _)⟩⟩)
    ·rintro x r b s' ⟨rfl,i,hit,rfl,hr,hi,hH⟩
     obtain ⟨h1,h2,h3,h4,h5⟩:=filter_range'_cons _ _ _ _ _ hr.symm
     have hlt:x < es.size:=by omega
     obtain ⟨y,b,u,k1,k2,k3⟩:=at_ hlt
     have hr':r=(List.range' (x+1) (es.size - (x+1))).filter pw:=by rw [h5];congr 2;omega
     have hx:(hit=none∧∀j p,j < x→xs[j]?≠some (k,p))∨∃j p,hit=some j∧j < x∧xs[j]?=some (k,p):=by
      rcases hH with ⟨a1,a2⟩ | ⟨j,p,a1,a2,a3⟩
      ·refine .inl ⟨a1,fun j p hj e=>?_⟩
       by_cases c1:j < i
       ·exact a2 j p c1 e
       ·have:=h4 j (by omega) hj
        rw [hpw j p e] at this
        cases this
      ·exact .inr ⟨j,p,a1,by omega,a3⟩
     have nx:¬y=k→((hit=none∧∀j p,j < x+1→xs[j]?≠some (k,p))∨∃j p,hit=some j∧j < x+1∧xs[j]?=some (k,p)):=fun ne=>by
      rcases hx with ⟨a1,a2⟩ | ⟨j,p,a1,a2,a3⟩
      ·refine .inl ⟨a1,fun j p hj e=>?_⟩
       by_cases c1:j < x
       ·exact a2 j p c1 e
       ·have:j=x:=by omega
        subst this
        rw [k1] at e
        cases e
        exact ne rfl
      ·exact .inr ⟨j,p,a1,by omega,a3⟩
     rw [k3]
     dsimp only
     by_cases hh:(y.hash w == k.hash w)=true
     ·rw [if_pos hh]
      refine wpAny_bind (wpAny_dictEpoch ho hd (wpAny_bind (Wl hu k2 hkey (wpAny_bind (wpAny_dictEpoch ho hd ?_)))))
      rw [if_neg (by simp)]
      by_cases hk:y=k
      ·rw [decide_eq_true hk]
       subst hk
       rcases hx with ⟨rfl,_⟩ | ⟨j,p,_,a2,a3⟩
       ·simp only [Option.isSome_none,Bool.false_eq_true,if_false,if_true]
        refine wpAny_bind (wpAny_rule ?_)
        split
        ·exact wpAny_pure (wpAny_pure (q1 x _ k1))
        ·exact wpAny_pure ⟨rfl,x+1,some x,rfl,hr',hlt,.inr ⟨x,_,rfl,Nat.lt_succ_self x,k1⟩⟩
       ·exact absurd (key_one hn a3 k1) (by omega)
      ·rw [decide_eq_false hk]
       simp only [Bool.false_eq_true,if_false,Bool.false_and]
       exact wpAny_bind (wpAny_rule (wpAny_pure ⟨rfl,x+1,hit,rfl,hr',hlt,nx hk⟩))
     ·rw [if_neg hh]
      exact wpAny_pure ⟨rfl,x+1,hit,rfl,hr',hlt,nx fun e=>hh (by rw [e];simp)⟩
    ·rintro b s' ⟨rfl,i,hit,rfl,hr,hi,hH⟩
     rcases hH with ⟨rfl,hno⟩ | ⟨j,p,rfl,_,e⟩
     ·refine wpAny_pure (q0 fun j p e=>?_)
      by_cases c1:j < i
      ·exact hno j p c1 e
      ·have hj:j < es.size:=by rw [hz];exact (List.getElem?_eq_some_iff.mp e).1
       have:=List.filter_eq_nil_iff.mp hr.symm j (List.mem_range'_1.mpr ⟨by omega,by omega⟩)
       exact this (hpw j p e)
     ·exact wpAny_pure (q1 j p e)))
  next =>
   split
   next a _ =>
    rw [if_neg (hany a rfl)]
    (
   by_cases one:((placesWithHash es.size (fun i=>es[i]?.map (·.hash)) (k.hash w)).filterMap (fun i=>es[i]?.map (·.key)) == [Value.ref a])=true <;>
   (first | rw [if_pos one] | rw [if_neg one]) <;> (first | refine wpAny_bind (wpAny_pure ?_) | refine wpAny_bind (ZcW hkey hst ?_)) <;> (
    rw [if_neg (by simp)]
    refine wpAny_bind (wpAny_forIn_list _ (fun r b s'=>s'=s∧∃i hit,b=(none,hit)∧r=(List.range' i (es.size - i)).filter pw∧i≤es.size∧((hit=none∧∀j p,j < i→xs[j]?≠some (k,p))∨∃j p,hit=some j∧j < i∧xs[j]?=some (k,p))) _ ?_ ?_ _ _
     ⟨rfl,0,none,rfl,by rw [placesWithHash,List.range_eq_range',Nat.sub_zero],Nat.zero_le _,.inl ⟨rfl,fun _ _ h=>absurd h (Nat.not_lt_zero _)⟩⟩)
    ·rintro x r b s' ⟨rfl,i,hit,rfl,hr,hi,hH⟩
     obtain ⟨h1,h2,h3,h4,h5⟩:=filter_range'_cons _ _ _ _ _ hr.symm
     have hlt:x < es.size:=by omega
     obtain ⟨y,b,u,k1,k2,k3⟩:=at_ hlt
     have hr':r=(List.range' (x+1) (es.size - (x+1))).filter pw:=by rw [h5];congr 2;omega
     have hx:(hit=none∧∀j p,j < x→xs[j]?≠some (k,p))∨∃j p,hit=some j∧j < x∧xs[j]?=some (k,p):=by
      rcases hH with ⟨a1,a2⟩ | ⟨j,p,a1,a2,a3⟩
      ·refine .inl ⟨a1,fun j p hj e=>?_⟩
       by_cases c1:j < i
       ·exact a2 j p c1 e
       ·have:=h4 j (by omega) hj
        rw [hpw j p e] at this
        cases this
      ·exact .inr ⟨j,p,a1,by omega,a3⟩
     have nx:¬y=k→((hit=none∧∀j p,j < x+1→xs[j]?≠some (k,p))∨∃j p,hit=some j∧j < x+1∧xs[j]?=some (k,p)):=fun ne=>by
      rcases hx with ⟨a1,a2⟩ | ⟨j,p,a1,a2,a3⟩
      ·refine .inl ⟨a1,fun j p hj e=>?_⟩
       by_cases c1:j < x
       ·exact a2 j p c1 e
       ·have:j=x:=by omega
        subst this
        rw [k1] at e
        cases e
        exact ne rfl
      ·exact .inr ⟨j,p,a1,by omega,a3⟩
     rw [k3]
     dsimp only
     by_cases hh:(y.hash w == k.hash w)=true
     ·rw [if_pos hh]
      refine wpAny_bind (wpAny_dictEpoch ho hd (wpAny_bind (Wl hu k2 hkey (wpAny_bind (wpAny_dictEpoch ho hd ?_)))))
      rw [if_neg (by simp)]
      by_cases hk:y=k
      ·rw [decide_eq_true hk]
       subst hk
       rcases hx with ⟨rfl,_⟩ | ⟨j,p,_,a2,a3⟩
       ·simp only [Option.isSome_none,Bool.false_eq_true,if_false,if_true]
        refine wpAny_bind (wpAny_rule ?_)
        split
        ·exact wpAny_pure (wpAny_pure (q1 x _ k1))
        ·exact wpAny_pure ⟨rfl,x+1,some x,rfl,hr',hlt,.inr ⟨x,_,rfl,Nat.lt_succ_self x,k1⟩⟩
       ·exact absurd (key_one hn a3 k1) (by omega)
      ·rw [decide_eq_false hk]
       simp only [Bool.false_eq_true,if_false,Bool.false_and]
       exact wpAny_bind (wpAny_rule (wpAny_pure ⟨rfl,x+1,hit,rfl,hr',hlt,nx hk⟩))
     ·rw [if_neg hh]
      exact wpAny_pure ⟨rfl,x+1,hit,rfl,hr',hlt,nx fun e=>hh (by rw [e];simp)⟩
    ·rintro b s' ⟨rfl,i,hit,rfl,hr,hi,hH⟩
     rcases hH with ⟨rfl,hno⟩ | ⟨j,p,rfl,_,e⟩
     ·refine wpAny_pure (q0 fun j p e=>?_)
      by_cases c1:j < i
      ·exact hno j p c1 e
      ·have hj:j < es.size:=by rw [hz];exact (List.getElem?_eq_some_iff.mp e).1
       have:=List.filter_eq_nil_iff.mp hr.symm j (List.mem_range'_1.mpr ⟨by omega,by omega⟩)
       exact this (hpw j p e)
     ·exact wpAny_pure (q1 j p e)))
   next=>(
   by_cases one:((placesWithHash es.size (fun i=>es[i]?.map (·.hash)) (k.hash w)).filterMap (fun i=>es[i]?.map (·.key)) == [v])=true <;>
   (first | rw [if_pos one] | rw [if_neg one]) <;> (first | refine wpAny_bind (wpAny_pure ?_) | refine wpAny_bind (ZcW hkey hst ?_)) <;> (
    rw [if_neg (by simp)]
    refine wpAny_bind (wpAny_forIn_list _ (fun r b s'=>s'=s∧∃i hit,b=(none,hit)∧r=(List.range' i (es.size - i)).filter pw∧i≤es.size∧((hit=none∧∀j p,j < i→xs[j]?≠some (k,p))∨∃j p,hit=some j∧j < i∧xs[j]?=some (k,p))) _ ?_ ?_ _ _
     ⟨rfl,0,none,rfl,by rw [placesWithHash,List.range_eq_range',Nat.sub_zero],Nat.zero_le _,.inl ⟨rfl,fun _ _ h=>absurd h (Nat.not_lt_zero _)⟩⟩)
    ·rintro x r b s' ⟨rfl,i,hit,rfl,hr,hi,hH⟩
     obtain ⟨h1,h2,h3,h4,h5⟩:=filter_range'_cons _ _ _ _ _ hr.symm
     have hlt:x < es.size:=by omega
     obtain ⟨y,b,u,k1,k2,k3⟩:=at_ hlt
     have hr':r=(List.range' (x+1) (es.size - (x+1))).filter pw:=by rw [h5];congr 2;omega
     have hx:(hit=none∧∀j p,j < x→xs[j]?≠some (k,p))∨∃j p,hit=some j∧j < x∧xs[j]?=some (k,p):=by
      rcases hH with ⟨a1,a2⟩ | ⟨j,p,a1,a2,a3⟩
      ·refine .inl ⟨a1,fun j p hj e=>?_⟩
       by_cases c1:j < i
       ·exact a2 j p c1 e
       ·have:=h4 j (by omega) hj
        rw [hpw j p e] at this
        cases this
      ·exact .inr ⟨j,p,a1,by omega,a3⟩
     have nx:¬y=k→((hit=none∧∀j p,j < x+1→xs[j]?≠some (k,p))∨∃j p,hit=some j∧j < x+1∧xs[j]?=some (k,p)):=fun ne=>by
      rcases hx with ⟨a1,a2⟩ | ⟨j,p,a1,a2,a3⟩
      ·refine .inl ⟨a1,fun j p hj e=>?_⟩
       by_cases c1:j < x
       ·exact a2 j p c1 e
       ·have:j=x:=by omega
        subst this
        rw [k1] at e
        cases e
        exact ne rfl
      ·exact .inr ⟨j,p,a1,by omega,a3⟩
     rw [k3]
     dsimp only
     by_cases hh:(y.hash w == k.hash w)=true
     ·rw [if_pos hh]
      refine wpAny_bind (wpAny_dictEpoch ho hd (wpAny_bind (Wl hu k2 hkey (wpAny_bind (wpAny_dictEpoch ho hd ?_)))))
      rw [if_neg (by simp)]
      by_cases hk:y=k
      ·rw [decide_eq_true hk]
       subst hk
       rcases hx with ⟨rfl,_⟩ | ⟨j,p,_,a2,a3⟩
       ·simp only [Option.isSome_none,Bool.false_eq_true,if_false,if_true]
        refine wpAny_bind (wpAny_rule ?_)
        split
        ·exact wpAny_pure (wpAny_pure (q1 x _ k1))
        ·exact wpAny_pure ⟨rfl,x+1,some x,rfl,hr',hlt,.inr ⟨x,_,rfl,Nat.lt_succ_self x,k1⟩⟩
       ·exact absurd (key_one hn a3 k1) (by omega)
      ·rw [decide_eq_false hk]
       simp only [Bool.false_eq_true,if_false,Bool.false_and]
       exact wpAny_bind (wpAny_rule (wpAny_pure ⟨rfl,x+1,hit,rfl,hr',hlt,nx hk⟩))
     ·rw [if_neg hh]
      exact wpAny_pure ⟨rfl,x+1,hit,rfl,hr',hlt,nx fun e=>hh (by rw [e];simp)⟩
    ·rintro b s' ⟨rfl,i,hit,rfl,hr,hi,hH⟩
     rcases hH with ⟨rfl,hno⟩ | ⟨j,p,rfl,_,e⟩
     ·refine wpAny_pure (q0 fun j p e=>?_)
      by_cases c1:j < i
      ·exact hno j p c1 e
      ·have hj:j < es.size:=by rw [hz];exact (List.getElem?_eq_some_iff.mp e).1
       have:=List.filter_eq_nil_iff.mp hr.symm j (List.mem_range'_1.mpr ⟨by omega,by omega⟩)
       exact this (hpw j p e)
     ·exact wpAny_pure (q1 j p e)))
end
end L2.Dn
namespace L2.Dn
open PySem
def lkE (xs:List Ent) (k:NestedKey):Option Value:=(xs.find? fun x=>decide (x.1=k)).map (·.2.2)
def Y4 (xs:List Ent) (k:NestedKey) (v u:Value):List Ent:=if k∈xs.map (·.1) then xs.map fun x=>if x.1=k then (x.1,x.2.1,u) else x else xs++[(k,v,u)]
theorem K9 {xs:List Ent} (hn:(xs.map (·.1)).Nodup) {j:Nat} {k:NestedKey} {p:Value×Value} (h:xs[j]?=some (k,p)):lkE xs k=some p.2:=by
 unfold lkE
 have hm:=List.mem_of_getElem? h
 cases hf:xs.find? fun x=>decide (x.1=k) with
 | none=>exact absurd (decide_eq_true rfl) (List.find?_eq_none.mp hf _ hm)
 | some y =>
  have h1:y.1=k:=by simpa using List.find?_some hf
  have h2:=List.mem_of_find?_eq_some hf
  obtain ⟨i,hi⟩:=List.mem_iff_getElem?.mp h2
  obtain ⟨y1,y2⟩:=y
  cases h1
  have:=key_one hn hi h
  subst this
  rw [hi] at h
  cases h
  rfl
theorem Zd1 {xs:List Ent} {k:NestedKey} (h:∀(j:Nat) (p:Value×Value),xs[j]?≠some (k,p)):lkE xs k=none:=by
 unfold lkE
 rw [Option.map_eq_none_iff,List.find?_eq_none]
 intro x hx hk
 obtain ⟨j,hj⟩:=List.mem_iff_getElem?.mp hx
 obtain ⟨y,p⟩:=x
 have:y=k:=of_decide_eq_true hk
 exact h j p (by rw [hj,this])
theorem ZhI {xs:List Ent} {k:NestedKey} (h:∀(j:Nat) (p:Value×Value),xs[j]?≠some (k,p)):k∉xs.map (·.1):=fun hm=>by
 obtain ⟨x,hx,rfl⟩:=List.mem_map.mp hm
 obtain ⟨j,hj⟩:=List.mem_iff_getElem?.mp hx
 exact h j x.2 hj
theorem ZhH {xs:List Ent} {k:NestedKey} {u:Value} (h:k∉xs.map (·.1)):(xs.map fun x=>if x.1=k then (x.1,x.2.1,u) else x)=xs:=by
 conv=>rhs;rw [←List.map_id xs]
 exact List.map_congr_left fun x hx=>if_neg fun e=>h (by rw [←e];exact List.mem_map.mpr ⟨x,hx,rfl⟩)
theorem Zd6 {w:World} {u:Value} {k:NestedKey}:∀{xs:List Ent} {j:Nat} {p:Value×Value},(xs.map (·.1)).Nodup→xs[j]?=some (k,p)→(xs.map (Yq w)).modify j (fun e=>{ e with val:=u })=(xs.map fun x=>if x.1=k then (x.1,x.2.1,u) else x).map (Yq w)
 | [],_,_,_,h=>by cases h
 | x::xs,0,p,hn,h=>by
  cases h
  rw [List.map_cons,List.nodup_cons] at hn
  rw [List.map_cons,List.map_cons,ZhH hn.1,if_pos rfl]
  rfl
 | x::xs,j+1,p,hn,h=>by
  rw [List.map_cons,List.nodup_cons] at hn
  have ne:¬x.1=k:=fun e=>hn.1 (by rw [e];exact List.mem_map.mpr ⟨_,List.mem_of_getElem? h,rfl⟩)
  rw [List.map_cons,List.map_cons,if_neg ne,List.map_cons,List.modify_succ_cons,Zd6 (xs:=xs) (j:=j) hn.2 h]
theorem Zhk {xs:List Ent} {k:NestedKey} {u:Value}:(xs.map fun x=>if x.1=k then (x.1,x.2.1,u) else x).map (·.1)=xs.map (·.1):=by
 rw [List.map_map]
 exact List.map_congr_left fun x _=>by simp only [Function.comp];split <;> rfl
section
variable {P:Program} {w:World} {A:Around} {E:Value→Shared→Prop} {s:Shared} {d:Addr} {xs:List Ent} {k:NestedKey} {v u:Value}
theorem SQ.ty (h:SQ w s.heap d xs):s.TypeIs (.ref d) "dict":=by
 obtain ⟨o,_,_,h1,h2,_⟩:=h
 exact ⟨o,h1,h2.1⟩
theorem SQ.nd {hp:Heap} (h:SQ w hp d xs):(xs.map (·.1)).Nodup:=by
 obtain ⟨_,_,_,_,_,_,_,_,h⟩:=h
 exact h
theorem Wk {h h':Heap} {o:Obj} {es:Array DictEntry} {ep:Nat} {y:NestedKey} {b:Value} (hk:IsK h y b) (ho:h.get? d=some o) (hd:o.data = .dict es ep) (hs:Heap.SameBut d h h'):IsK h' y b :=
 ⟨NestedIs.at (fun c ob vs n hb hc=>(hs.2 c fun e=>by
  subst e
  rw [ho] at hb
  cases hb
  rw [hd] at hc
  cases hc).trans hb) y b hk.1,hk.2⟩
theorem ZdH {Q:Option Value→Shared→Prop} (hu:A.units+8 < cLine) (hk:IsK s.heap k v) (hm:SQ w s.heap d xs) (q:Q (lkE xs k) { s with toks:=s.toks+k.draws }):wpAny (model P w) A (dictGet d v) Q E s:=by
 obtain ⟨o,es,ep,ho,_,hd,he,his,hn⟩:=hm
 unfold dictGet
 try with_reducible refine wpAny_holding ?_
 refine wpAny_bind (ZdJ hu hk (wpAny_bind (find_key (s:={ s with toks:=s.toks+k.draws }) hu hk ho hd he his hn (fun no=>?_) fun j p hj=>?_)))
 ·rw [Zd1 no] at q
  exact wpAny_pure q
 ·rw [K9 hn hj] at q
  refine wpAny_bind (wpAny_dictEntries (s:={ s with toks:=s.toks+k.draws }) ho hd ?_)
  rw [Ve he j,hj]
  exact wpAny_pure q
theorem ZiS {Q:Unit→Shared→Prop} (hu:A.units+8 < cLine) (hk:IsK s.heap k v) (hm:SQ w s.heap d xs) (hz:xs.length≤sizeLine)
  (q:∀h',SQ w h' d (Y4 xs k v u)→Heap.SameBut d s.heap h'→Q () { s with heap:=h' }):wpAny (model P w) A (dictSetHashed d v (k.hash w) u) Q E s:=by
 obtain ⟨o,es,ep,ho,hc,hd,he,his,hn⟩:=hm
 unfold dictSetHashed
 try with_reducible refine wpAny_holding ?_
 refine wpAny_bind (find_key hu hk ho hd he his hn (fun no=>?_) fun j p hj=>?_)
 ·have nm:=ZhI no
  have ep0:Y4 xs k v u=xs++[(k,v,u)]:=if_neg nm
  refine wpAny_bind (wpAny_rule (wpAny_updateDictKeys (hz:=by have:=Kz he;omega) ho hd (q _ ⟨_,_,ep+1,Heap.get?_update_self _ ho (Obj.isFreed_of_dict (Obj.data_mapDictKeys hd _)),hc.mapDictKeys _,Obj.data_mapDictKeys hd _,?_,?_,?_⟩ (Heap.SameBut.update ..))))
  ·rw [ep0]
   simp [he,Yq]
  ·rw [ep0]
   intro x hx
   rcases List.mem_append.mp hx with hx | hx
   ·exact Wk (his x hx) ho hd (Heap.SameBut.update ..)
   ·obtain rfl:=List.mem_singleton.mp hx
    exact Wk hk ho hd (Heap.SameBut.update ..)
  ·rw [ep0,List.map_append,List.nodup_append]
   refine ⟨hn,by simp,fun a ha b hb e=>?_⟩
   have:b=k:=by simpa using hb
   exact nm (by rw [←this,←e];exact ha)
 ·have mm:k∈xs.map (·.1):=List.mem_map.mpr ⟨_,List.mem_of_getElem? hj,rfl⟩
  have ep0:Y4 xs k v u=xs.map fun x=>if x.1=k then (x.1,x.2.1,u) else x:=if_pos mm
  refine wpAny_bind (wpAny_rule (wpAny_bind (wpAny_updateDict ho hd (wpAny_point (q _ ⟨_,_,ep,Heap.get?_update_self _ ho (Obj.isFreed_of_dict (Obj.data_mapDict hd _)),hc.mapDict _,Obj.data_mapDict hd _,?_,?_,?_⟩ (Heap.SameBut.update ..))))))
  ·rw [ep0,←Zd6 hn hj,←he]
   simp
  ·rw [ep0]
   intro x hx
   obtain ⟨y,hy,rfl⟩:=List.mem_map.mp hx
   split <;> exact Wk (his y hy) ho hd (Heap.SameBut.update ..)
  ·rw [ep0,Zhk]
   exact hn
theorem ZeL {Q:Unit→Shared→Prop} (hu:A.units+8 < cLine) (hk:IsK s.heap k v) (hm:SQ w s.heap d xs) (hz:xs.length≤sizeLine)
  (q:∀h',SQ w h' d (Y4 xs k v u)→Heap.SameBut d s.heap h'→Q () { s with heap:=h',toks:=s.toks+k.draws }):wpAny (model P w) A (dictSet d v u) Q E s:=by
 unfold dictSet
 try with_reducible refine wpAny_holding ?_
 exact wpAny_bind (ZdJ hu hk (ZiS (s:={ s with toks:=s.toks+k.draws }) hu hk hm hz q))
theorem ZgA {Q:Value→Shared→Prop} (hu:A.units+9 < cLine) (hk:IsK s.heap k v) (hm:SQ w s.heap d xs) (hl:lkE xs k=some u) (q:Q u { s with toks:=s.toks+k.draws }):wpAny (model P w) A (getItem (.ref d) v) Q E s:=by
 unfold getItem
 try with_reducible refine wpAny_holding ?_
 refine wpAny_bind (wpAny_sequenceKey hm.ty (by decide) ?_)
 refine wpAny_bind (wpAny_callSpecial?_slot (name:=Str.ofString "__getitem__") hm.ty slot_dict_getitem (wpAny_call_entry slot_dict_getitem hm.ty entry_dict_getitem ?_ (args_dict_getitem _ _)))
 show wpAny _ _ (dictGet d v >>= _) _ _ s
 refine wpAny_bind (ZdH (by show A.units+1+8 < _;omega) hk hm ?_)
 rw [hl]
 exact wpAny_pure ⟨u,rfl,wpAny_pure q⟩
theorem ZiT {Q:Unit→Shared→Prop} (hu:A.units+9 < cLine) (hk:IsK s.heap k v) (hm:SQ w s.heap d xs) (hz:xs.length≤sizeLine)
  (q:∀h',SQ w h' d (Y4 xs k v u)→Heap.SameBut d s.heap h'→Q () { s with heap:=h',toks:=s.toks+k.draws }):wpAny (model P w) A (setItem (.ref d) v u) Q E s:=by
 unfold setItem
 try with_reducible refine wpAny_holding ?_
 refine wpAny_bind (wpAny_sequenceKey hm.ty (by decide) ?_)
 refine wpAny_bind (wpAny_callSpecial?_slot (name:=Str.ofString "__setitem__") hm.ty slot_dict_setitem (wpAny_call_entry slot_dict_setitem hm.ty entry_dict_setitem ?_ (args_dict_setitem _ _ _)))
 show wpAny _ _ (Builtin.Dict.notOrdered "__setitem__" ⟨[.ref d,v,u],[]⟩ >>= _) _ _ s
 refine wpAny_bind (wpAny_notOrdered_dict hm.ty ?_)
 show wpAny _ _ (dictSet d v u >>= _) _ _ s
 exact wpAny_bind (ZeL (by show A.units+1+8 < _;omega) hk hm hz fun h' hm' hs'=>wpAny_pure ⟨.none,rfl,wpAny_pure (q h' hm' hs')⟩)
theorem Zfr {Q:Bool→Shared→Prop} (hu:A.units+9 < cLine) (hk:IsK s.heap k v) (hd:(d == sysModules)=false) (hm:SQ w s.heap d xs) (q:Q (lkE xs k).isSome { s with toks:=s.toks+k.draws }):wpAny (model P w) A (contains (.ref d) v) Q E s:=by
 refine wpAny_contains_slot hm.ty F.slot_dict_contains ?_
 refine call_meetsIn F.slot_dict_contains hm.ty F.entry_dict_contains (F.args_dict_contains_2 _ _) (S:=fun A' R s'=>A'=A∧s'=s∧R (.ok (.ret (.bool (lkE xs k).isSome))) { s with toks:=s.toks+k.draws }) (fun A' R s' hS=>?_) ⟨rfl,rfl,wpAny_truthy_bool q⟩
 obtain ⟨rfl,rfl,hq⟩:=hS
 show wpAny _ _ (dictGet d v >>= _) _ _ _
 refine wpAny_bind (ZdH (by show A'.units+1+8 < _;omega) hk hm ?_)
 cases hf:lkE xs k with
 | some p =>
  rw [hf] at hq
  show wpAny _ _ (ret (.bool true)) _ _ _
  exact wpAny_pure hq
 | none =>
  rw [hf] at hq
  show wpAny _ _ (Builtin.Dict.pendingKey? d v >>= _) _ _ _
  exact wpAny_bind (wpAny_pendingKey_other hd (wpAny_pure hq))
end
end L2.Dn
namespace L2.Dn
open PySem PySem.Spec PyProof.Rows L2
section
variable {X:Cx} {pins:List (Addr×Obj)} {σ:St} {H:Hp} {s:Shared}
mutual
/-- frozen data that may be a key is that key in the machine's heap -/
theorem key_is (I:Inv X pins σ H s):∀{v:V} {d:PyData} {u:Value} {k:NestedKey},DpZ X.kw H v d→nk d=some k→RelV v u→NestedIs s.heap k u
 | _,_,u,k,.non,e,r=>by cases r;cases e;exact .none
 | _,_,u,k,.bl b,e,r=>by cases r;cases e;exact .bool rfl
 | _,_,u,k,.int i,e,r=>by obtain ⟨t,rfl⟩:=r;cases e;exact .int i t
 | _,_,u,k,.str x,e,r=>by obtain ⟨t,rfl⟩:=r;cases e;exact .text x t
 | _,_,u,k,.lst _ _,e,r=>by simp [nk] at e
 | _,_,u,k,.dG _ _ _ _ _ _,e,r=>by simp [nk] at e
 | _,_,u,k,.tup (ds:=ds) h q,e,r=>by
  cases r
  obtain ⟨its,rv,⟨o,e1,hc,n,hd⟩,z⟩:=I.tuple h
  simp only [nk,Option.map_eq_some_iff] at e
  obtain ⟨ks,e2,rfl⟩:=e
  exact .tup e1 hc hd (ZdT I q e2 (by simpa using rv))
theorem ZdT (I:Inv X pins σ H s):∀{vs:List V} {ds:List PyData} {us:List Value} {ks:List NestedKey},RP X.kw H vs ds→nk.nks ds=some ks→Vals vs us→NestedAll s.heap ks us
 | _,_,us,ks,.nil,e,r=>by cases r;simp [nk.nks] at e;subst e;exact .nil
 | _,_,us,ks,.cons (d:=d) (ds:=ds) h q,e,r=>by
  cases r with
  | cons r1 r2 =>
   unfold nk.nks at e
   cases e1:nk d with
   | none=>rw [e1] at e;cases e
   | some k1 =>
    cases e2:nk.nks ds with
    | none=>rw [e1,e2] at e;cases e
    | some k2 =>
     rw [e1,e2] at e
     cases e
     exact .cons (key_is I h e1 r1) (ZdT I q e2 r2)
end
/-- an entry as it is told and as it lies -/
def Yh (e:NestedKey×V×V) (x:Ent):Prop:=e.1=x.1∧RelV e.2.1 x.2.1∧RelV e.2.2 x.2.2
theorem Zdu {w:World}:∀{es:List (NestedKey×V×V)} {ens:List DictEntry},Paired (fun (e:NestedKey×V×V) (x:DictEntry)=>x.hash=e.1.hash w∧RelV e.2.1 x.key∧RelV e.2.2 x.val) es ens→∃xs:List Ent,ens=xs.map (Yq w)∧Paired Yh es xs
 | _,_,.nil=>⟨[],rfl,.nil⟩
 | _,_,.cons (b:=x) (a:=e) h r=>by
  obtain ⟨xs,e1,e2⟩:=Zdu r
  refine ⟨(e.1,x.key,x.val)::xs,?_,.cons ⟨rfl,h.2.1,h.2.2⟩ e2⟩
  rw [e1,List.map_cons]
  congr 1
  obtain ⟨a,b,c⟩:=x
  simp only [Yq]
  rw [←h.1]
theorem KC:∀{es:List (NestedKey×V×V)} {xs:List Ent},Paired Yh es xs→es.map (·.1)=xs.map (·.1)
 | _,_,.nil=>rfl
 | _,_,.cons h r=>by rw [List.map_cons,List.map_cons,h.1,KC r]
theorem Zdt (I:Inv X pins σ H s):∀{es:List (NestedKey×V×V)} {xs:List Ent} {ks:List PyData},Paired Yh es xs→RP X.kw H (es.map (·.2.1)) ks→es.map (fun e=>some e.1)=ks.map nk→(∀e∈es,e.1.depth≤8)→∀x∈xs,IsK s.heap x.1 x.2.1
 | _,_,_,.nil,_,_,_,x,hx=>by cases hx
 | _,_,ks,.cons (a:=e) (b:=y) h r,q,ek,hd,x,hx=>by
  cases q with
  | @cons _ _ d ds q1 q2 =>
   simp only [List.map_cons,List.cons.injEq] at ek
   rcases List.mem_cons.mp hx with rfl | hx
   ·exact ⟨key_is I q1 (by rw [←ek.1,h.1]) h.2.1,by rw [←h.1];exact hd _ List.mem_cons_self⟩
   ·exact Zdt I r q2 ek.2 (fun z hz=>hd z (List.mem_cons_of_mem _ hz)) x hx
/-- a told dict as it lies -/
theorem JD {a:Addr} {es:List (NestedKey×V×V)} {kvs:List (PyData×D)} {c:Anc} (I:Inv X pins σ H s) (h:Rd H a (gdO X.w a es)) (r:qaF X.kw H c es kvs):(a == sysModules)=false∧∃xs:List Ent,SQ X.w s.heap a xs∧Paired Yh es xs:=by
 have z:ObjOk X.prog X.w H s.heap a (HO.ext _):=h.ok I.hok
 obtain ⟨o,ens,ep,h0,h1,h2,h3,h4⟩:=z.1
 obtain ⟨xs,e1,e2⟩:=Zdu h4
 have ek:es.map (fun e=>some e.1)=(kvs.map (·.1)).map nk:=by rw [r.key,List.map_map];rfl
 exact ⟨h0,xs,⟨o,ens,ep,h1,h2,h3,e1,Zdt I e2 r.kd ek r.dp,by rw [←KC e2];exact r.nd⟩,e2⟩
end
end L2.Dn
namespace L2.Dn
open PySem PySem.Spec PyProof.Rows L2
def lkD (kvs:List (PyData×D)) (k:NestedKey):Option D:=(kvs.find? fun q=>decide (nk q.1=some k)).map (·.2)
/-- d[k]=v: the key that stands stays -/
def putD (kvs:List (PyData×D)) (kd:PyData) (k:NestedKey) (d:D):List (PyData×D):=if some k∈kvs.map (fun q=>nk q.1) then kvs.map fun q=>if nk q.1=some k then (q.1,d) else q else kvs++[(kd,d)]
def YH (d:D) (m:Store):Option (List (PyData×D)):=match Kf d with
 | some q=>some (q.1.zip q.2)
 | none=>match d with
  | .cell i=>match m.at_ i with
   | some (.dct kvs)=>some kvs
   | _=>none
  | _=>none
theorem qaF.ofK {K:KW} {H:Hp} {c:Anc} {es:List (NestedKey×V×V)} {ks:List PyData} {xs:List D} (h:qry K H es ks) (hv:VDs K H c (es.map (·.2.2)) xs):qaF K H c es (ks.zip xs):=by
 have l1:=h.len
 have l2:es.length=xs.length:=by rw [←hv.length,List.length_map]
 have z1:(ks.zip xs).map (·.1)=ks:=List.map_fst_zip (by omega)
 have z2:(ks.zip xs).map (·.2)=xs:=List.map_snd_zip (by omega)
 refine ⟨?_,h.dp,h.nd,by rw [z1];exact h.kd,by rw [z2];exact hv⟩
 have:=congrArg (List.map nk) z1
 simp only [List.map_map] at this
 rw [h.key]
 exact this.symm
/-- a datum that may be a key -/
def YB:D→Option NestedKey
 | .p d=>match nk d with
  | some k=>if k.depth≤8 then some k else none
  | none=>none
 | _=>none
section
variable {X:Cx} {pins:List (Addr×Obj)} {σ:St} {H:Hp} {s:Shared} {c:Anc} {m:Store}
theorem ZbS {K:KW} {k:NestedKey} {d:D}:∀{es:List (NestedKey×V×V)} {xs:List Ent} {kvs:List (PyData×D)},Paired Yh es xs→es.map (fun e=>some e.1)=kvs.map (fun q=>nk q.1)→VDs K H c (es.map (·.2.2)) (kvs.map (·.2))→lkD kvs k=some d→∃v u,lkE xs k=some u∧RelV v u∧VD K H c v d
 | _,_,[],.nil,_,_,e=>by cases e
 | _,_,q::kvs,.nil,ek,_,e=>by cases ek
 | _,_,[],.cons h r,ek,_,e=>by cases ek
 | _,_,q::kvs,.cons (a:=e0) (b:=x) h r,ek,hv,e=>by
  simp only [List.map_cons,List.cons.injEq] at ek
  simp only [List.map_cons] at hv
  unfold VDs at hv
  obtain ⟨v,vr,e1,h1,h2⟩:=hv
  cases e1
  by_cases hk:x.1=k
  ·have:nk q.1=some k:=by rw [←ek.1,h.1,hk]
   simp only [lkD,List.find?_cons,this,decide_true,Option.map_some,Option.some.injEq] at e
   refine ⟨_,x.2.2,?_,h.2.2,by rw [←e];exact h1⟩
   simp only [lkE,List.find?_cons,hk,decide_true,Option.map_some]
  ·have:¬nk q.1=some k:=fun z=>hk (by rw [←ek.1,h.1] at z;exact Option.some.inj z)
   have e':lkD kvs k=some d:=by
    simp only [lkD,List.find?_cons,this,decide_false] at e
    exact e
   obtain ⟨v',u',g1,g2,g3⟩:=ZbS r ek.2 h2 e'
   refine ⟨v',u',?_,g2,g3⟩
   simp only [lkE,List.find?_cons,hk,decide_false]
   exact g1
theorem Zd2 {k:NestedKey}:∀{es:List (NestedKey×V×V)} {xs:List Ent} {kvs:List (PyData×D)},Paired Yh es xs→es.map (fun e=>some e.1)=kvs.map (fun q=>nk q.1)→lkD kvs k=none→lkE xs k=none
 | _,_,_,.nil,_,_=>rfl
 | _,_,[],.cons h r,ek,_=>by cases ek
 | _,_,q::kvs,.cons (a:=e0) (b:=x) h r,ek,e=>by
  simp only [List.map_cons,List.cons.injEq] at ek
  by_cases hk:x.1=k
  ·have:nk q.1=some k:=by rw [←ek.1,h.1,hk]
   simp only [lkD,List.find?_cons,this,decide_true,Option.map_some] at e
   cases e
  ·have:¬nk q.1=some k:=fun z=>hk (by rw [←ek.1,h.1] at z;exact Option.some.inj z)
   have e':lkD kvs k=none:=by
    simp only [lkD,List.find?_cons,this,decide_false] at e
    exact e
   simp only [lkE,List.find?_cons,hk,decide_false]
   exact Zd2 r ek.2 e'
theorem ZhA {k:NestedKey} {es:List (NestedKey×V×V)} {xs:List Ent} {kvs:List (PyData×D)} (p:Paired Yh es xs) (r:qaF X.kw H c es kvs):(lkE xs k).isSome=(lkD kvs k).isSome:=by
 cases e:lkD kvs k with
 | none=>rw [Zd2 p r.key e];rfl
 | some d =>
  obtain ⟨v,u,h1,_⟩:=ZbS p r.key r.vd e
  rw [h1]
  rfl
theorem Ke {v:V} {d:D} {kvs:List (PyData×D)} (r:Q9 X.kw c m H) (hv:VD X.kw H c v d) (e:YH d m=some kvs):∃a es,v = .ref a∧Rd H a (gdO X.w a es)∧qaF X.kw H c es kvs:=by
 unfold YH at e
 split at e
 ·rename_i q hq
  cases e
  obtain ⟨a,o,es,h1,h2,h3,h4⟩:=Zbe (ks:=q.1) (xs:=q.2) hv hq
  exact ⟨a,es,h1,.inr ⟨o,h2⟩,qaF.ofK h3 h4⟩
 ·split at e
  ·rename_i i _
   split at e
   ·rename_i k2 hm
    cases e
    unfold VD at hv
    obtain ⟨a,h1,h2⟩:=hv
    obtain ⟨es,h3,h4⟩:=r.at_ _ a _ h1 hm
    exact ⟨a,es,h2,.inl h3,h4.warm.mono (Ext.refl _) (VN _ _)⟩
   ·cases e
  ·cases e
theorem KZ (I:Inv X pins σ H s) {v:V} {d:D} {u:Value} {k:NestedKey} (hv:VD X.kw H c v d) (e:YB d=some k) (r:RelV v u):IsK s.heap k u:=by
 unfold YB at e
 split at e
 ·rename_i d
  split at e
  ·rename_i k' hk
   split at e
   ·rename_i hd
    cases e
    unfold VD at hv
    exact ⟨key_is I hv hk r,hd⟩
   ·cases e
  ·cases e
 ·cases e
def ZbH (neg:Bool) (x y:D) (m:Store):OD:=match YB x,YH y m with
 | some k,some kvs=>some (.p (.bool (if neg then !(lkD kvs k).isSome else (lkD kvs k).isSome)),m)
 | _,_=>none
theorem Zie (hu:X.A.units+65 < cLine):OpR X (compareOp .In) (rOf X.kw (ZbH false)):=by
 intro pins s σ H x y v u Q I rx ry h
 obtain ⟨c,m,dx,dy,r,h1,h2,w⟩:=h
 unfold ZbH at w
 split at w
 ·rename_i k kvs hk hd
  obtain ⟨a,es,rfl,h3,h4⟩:=Ke r h2 hd
  cases ry
  obtain ⟨hS,xs,hg,hp⟩:=JD I h3 h4
  show wpAny _ _ (do return Value.bool (←contains (Value.ref a) v)) _ _ _
  refine wpAny_bind (Zfr (by omega) (KZ I h1 hk rx) hS hg (wpAny_pure ?_))
  rw [ZhA hp h4]
  exact ⟨.bl _,H,I.tok _,rfl,w.now r (VD.bl.mpr rfl)⟩
 ·exact w.elim
def ZbL (x y:D) (m:Store):OD:=match YH x m,YB y with
 | some kvs,some k=>(lkD kvs k).map fun d=>(d,m)
 | _,_=>none
end
end L2.Dn
namespace L2.Dn
open PySem PySem.Spec PyProof.Rows L2
section
variable {X:Cx} {pins:List (Addr×Obj)} {σ:St} {H:Hp} {s:Shared} {c:Anc} {m:Store}
theorem Zhh (hu:X.A.units+65 < cLine):IxR X (rOf X.kw ZbL):=by
 intro value slice pins s σ H x y v u Q I rx ry h hs
 obtain ⟨c,m,dx,dy,r,h1,h2,w⟩:=h
 unfold ZbL at w
 split at w
 ·rename_i kvs k hd hk
  obtain ⟨a,es,rfl,h3,h4⟩:=Ke r h1 hd
  cases rx
  obtain ⟨hS,xs,hg,hp⟩:=JD I h3 h4
  cases e:lkD kvs k with
  | none=>rw [e] at w;exact w.elim
  | some d =>
   rw [e] at w
   obtain ⟨v',u',g1,g2,g3⟩:=ZbS hp h4.key h4.vd e
   exact tail_any hg.ty slot_dict_getitem.lookup (ZgA (by omega) (KZ I h2 hk ry) hg g1 ⟨v',H,I.tok _,g2,w.now r g3⟩) hs
 ·exact w.elim
/-- the told entries behind d[k]=v -/
def VL (es:List (NestedKey×V×V)) (k:NestedKey) (kv v:V):List (NestedKey×V×V):=if k∈es.map (·.1) then es.map fun x=>if x.1=k then (x.1,x.2.1,v) else x else es++[(k,kv,v)]
theorem Zdq {k:NestedKey} {v:V} {u:Value} (rv:RelV v u):∀{es:List (NestedKey×V×V)} {xs:List Ent},Paired Yh es xs→Paired Yh (es.map fun x=>if x.1=k then (x.1,x.2.1,v) else x) (xs.map fun x=>if x.1=k then (x.1,x.2.1,u) else x)
 | _,_,.nil => .nil
 | _,_,.cons (a:=e) (b:=x) h r=>by
  refine .cons ?_ (Zdq rv r)
  have e1:e.1=x.1:=h.1
  dsimp only
  by_cases hk:x.1=k
  ·rw [if_pos hk,if_pos (e1.trans hk)]
   exact ⟨h.1,h.2.1,rv⟩
  ·rw [if_neg hk,if_neg (fun z=>hk (e1 ▸ z))]
   exact h
theorem Zf0 {es es':List (NestedKey×V×V)} {xs xs':List Ent} (h:Paired Yh es xs) (h':Paired Yh es' xs'):Paired Yh (es++es') (xs++xs'):=by
 induction h with
 | nil=>exact h'
 | cons h r ih=>exact .cons h ih
theorem Zds {k:NestedKey} {kv v:V} {ku u:Value} (rk:RelV kv ku) (rv:RelV v u) {es:List (NestedKey×V×V)} {xs:List Ent} (h:Paired Yh es xs):Paired Yh (VL es k kv v) (Y4 xs k ku u):=by
 unfold VL Y4
 rw [KC h]
 split
 ·exact Zdq rv h
 ·exact Zf0 h (.cons ⟨rfl,rk,rv⟩ .nil)
theorem ZdU {k:NestedKey} {v:V} {es:List (NestedKey×V×V)}:(es.map fun x=>if x.1=k then (x.1,x.2.1,v) else x).map (·.1)=es.map (·.1):=by
 rw [List.map_map]
 exact List.map_congr_left fun x _=>by simp only [Function.comp];split <;> rfl
theorem RP.app {K:KW} {H:Hp}:∀{vs ws:List V} {ds es:List PyData},RP K H vs ds→RP K H ws es→RP K H (vs++ws) (ds++es)
 | _,_,_,_,.nil,q=>q
 | _,_,_,_,.cons h r,q => .cons h (RP.app r q)
theorem ZcZ {K:KW} {k:NestedKey} {v:V} {d:D} (hv:VD K H c v d):∀{es:List (NestedKey×V×V)} {kvs:List (PyData×D)},es.map (fun e=>some e.1)=kvs.map (fun q=>nk q.1)→VDs K H c (es.map (·.2.2)) (kvs.map (·.2))→VDs K H c ((es.map fun x=>if x.1=k then (x.1,x.2.1,v) else x).map (·.2.2)) ((kvs.map fun q=>if nk q.1=some k then (q.1,d) else q).map (·.2))
 | [],[],_,h=>h
 | [],_::_,e,_=>by cases e
 | _::_,[],e,_=>by cases e
 | e::es,q::kvs,ek,h=>by
  simp only [List.map_cons,List.cons.injEq] at ek h ⊢
  unfold VDs at h ⊢
  obtain ⟨v0,vr,e1,h1,h2⟩:=h
  cases e1
  by_cases hk:e.1=k
  ·have:nk q.1=some k:=by rw [←ek.1,hk]
   rw [if_pos hk,if_pos this]
   exact ⟨v,_,rfl,hv,ZcZ hv ek.2 h2⟩
  ·have:¬nk q.1=some k:=fun z=>hk (by rw [←ek.1] at z;exact Option.some.inj z)
   rw [if_neg hk,if_neg this]
   exact ⟨_,_,rfl,h1,ZcZ hv ek.2 h2⟩
theorem qaF.put {K:KW} {es:List (NestedKey×V×V)} {kvs:List (PyData×D)} {k:NestedKey} {kv v:V} {kd:PyData} {d:D} (r:qaF K H c es kvs) (hk:nk kd=some k) (h8:k.depth≤8) (hkd:DpZ K H kv kd) (hv:VD K H c v d):qaF K H c (VL es k kv v) (putD kvs kd k d):=by
 have mm:(some k∈kvs.map fun q=>nk q.1)↔k∈es.map (·.1):=by
  rw [←r.key]
  simp
 unfold VL putD
 by_cases hm:k∈es.map (·.1)
 ·rw [if_pos hm,if_pos (mm.mpr hm)]
  have ek2:((es.map fun x=>if x.1=k then (x.1,x.2.1,v) else x).map (·.2.1))=es.map (·.2.1):=by
   rw [List.map_map]
   exact List.map_congr_left fun x _=>by simp only [Function.comp];split <;> rfl
  have ek3:((kvs.map fun q=>if nk q.1=some k then (q.1,d) else q).map (·.1))=kvs.map (·.1):=by
   rw [List.map_map]
   exact List.map_congr_left fun x _=>by simp only [Function.comp];split <;> rfl
  refine ⟨?_,fun e he=>?_,by rw [ZdU];exact r.nd,by rw [ek2,ek3];exact r.kd,ZcZ hv r.key r.vd⟩
  ·have a1:=congrArg (List.map some) (ZdU (k:=k) (v:=v) (es:=es))
   have a2:=congrArg (List.map nk) ek3
   simp only [List.map_map] at a1 a2 ⊢
   have r':=r.key
   exact a1.trans (r'.trans a2.symm)
  ·obtain ⟨x,hx,rfl⟩:=List.mem_map.mp he
   have:=r.dp x hx
   split <;> exact this
 ·rw [if_neg hm,if_neg fun z=>hm (mm.mp z)]
  refine ⟨?_,fun e he=>?_,?_,?_,?_⟩
  ·rw [List.map_append,List.map_append,r.key]
   simp [hk]
  ·rcases List.mem_append.mp he with he | he
   ·exact r.dp e he
   ·obtain rfl:=List.mem_singleton.mp he
    exact h8
  ·rw [List.map_append,List.nodup_append]
   refine ⟨r.nd,by simp,fun a ha b hb e=>?_⟩
   have:b=k:=by simpa using hb
   exact hm (by rw [←this,←e];exact ha)
  ·rw [List.map_append,List.map_append]
   exact RP.app r.kd (.cons hkd .nil)
  ·rw [List.map_append,List.map_append]
   exact r.vd.append (VDs.one hv)
/-- how a told dict is told anew -/
theorem ZbE {P:Program} {w:World} {h:Heap} {a:Addr} {es:List (NestedKey×V×V)} {xs:List Ent} (hS:(a == sysModules)=false) (hg:SQ w h a xs) (hp:Paired Yh es xs):ObjOk P w H h a (gdO w a es):=by
 obtain ⟨o,ens,ep,h1,h2,h3,h4,h5,h6⟩:=hg
 refine ⟨⟨o,ens,ep,hS,h1,h2,h3,?_⟩,⟨o,h1⟩,fun g1 g2 z k=>?_⟩
 ·rw [h4]
  clear h1 h2 h3 h4 h5 h6
  induction hp with
  | nil=>exact .nil
  | cons h r ih=>exact .cons ⟨by rw [h.1];rfl,h.2.1,h.2.2⟩ ih
 ·obtain ⟨o,ens,ep,y0,y1,y2,y3,y4⟩:=z
  exact ⟨o,ens,ep,y0,k _ y1,y2,y3,y4⟩
/-- o[i]=v,a dict -/
def Vt (o i d:D) (m:Store):Option Store:=match o,i with
 | .cell x,.p kd=>match m.at_ x,YB (.p kd) with
  | some (.dct kvs),some k=>if kvs.length < sizeLine∧okIn d x=true then some (m.set (.dct (putD kvs kd k d)) x) else none
  | _,_=>none
 | _,_=>none
theorem ZdR {kd:PyData} {k:NestedKey} (e:YB (.p kd)=some k):nk kd=some k∧k.depth≤8:=by
 unfold YB at e
 dsimp only at e
 split at e
 ·rename_i k' hk
  split at e
  ·rename_i hd
   cases e
   exact ⟨hk,hd⟩
  ·cases e
 ·cases e
theorem set_dict (hu:X.A.units+65 < cLine):PSet X (ZaO X.kw Vt):=by
 intro pins s σ H o i v ov iv u Q I ro ri rv h
 obtain ⟨c,m,m',do_,di,dd,r,h1,h2,h3,e,q⟩:=h
 unfold Vt at e
 split at e
 ·rename_i x kd
  split at e
  ·rename_i kvs k hm hk
   split at e
   ·rename_i hc
    cases e
    unfold VD at h1
    obtain ⟨a,ha,rfl⟩:=h1
    cases ro
    obtain ⟨es,g1,g2⟩:=r.at_ x a _ ha hm
    obtain ⟨hS,xs,hg,hp⟩:=JD I (.inl g1) g2.warm
    obtain ⟨k1,k2⟩:=ZdR hk
    have hlen:xs.length≤sizeLine:=by
     have a1:=congrArg List.length (KC hp)
     have a2:=congrArg List.length g2.key
     simp only [List.length_map] at a1 a2
     have:=hc.1
     omega
    refine ZiT (by omega) (KZ I (c:=c) h2 hk ri) hg hlen fun h' hg' hs=>?_
    have hkd:DpZ X.kw H i kd:=by unfold VD at h2;exact h2
    have r2:qaF X.kw.cold H (qlL c x) (VL es k i v) (putD kvs kd k dd):=g2.put k1 k2 (DpZ.kw (K:=X.kw) (K':=X.kw.cold) rfl rfl hkd) (VD.qlL h3 hc.2)
    refine ⟨_,I.write (x:=a) (e:=a) (o:=gdO X.w a (VL es k i v)) (by rw [g1];exact True.intro) (.inl rfl) (fun b u hb e=>(hs.2 b hb).trans e) ?_ (ZbE hS hg' (Zds ri rv hp)),q _ ?_⟩
    ·obtain ⟨o,_,_,e,_⟩:=hg'
     exact ⟨o,e⟩
    ·exact r.qwX ha hm (by intro z;cases z) g1 rfl ⟨_,upd_same,r2.mono (Ext.qv8 g1 rfl) (Pre.refl _)⟩
   ·cases e
  ·cases e
 ·cases e
end
end L2.Dn
namespace L2.Dn
open PySem PySem.Spec PyProof.Rows L2
section
variable {X:Cx} {W:WX} {pos:Pos} {c:Anc} {ρ:Rho} {m:Store} {σ:St} {H:Hp}
theorem Zgy {P:Program} {w:World} {H:Hp} (h:Heap) (hb:sysModules < h.objs.size):ObjOk P w H (h.push { cls := .type "dict",data := .dict #[] }) h.objs.size (gdO w h.objs.size []) :=
 ZbE (xs:=[]) (beq_eq_false_iff_ne.mpr (Nat.ne_of_gt hb)) ⟨_,#[],0,Heap.get?_push_size _ rfl,⟨rfl,rfl,rfl⟩,rfl,rfl,fun x hx=>(by cases hx),List.nodup_nil⟩ .nil
/-- a new dict,a cell -/
def newD:Md→List (PyData×D)→Store→Res D
 | .z,kvs,m => .ok (VP kvs) m
 | .l,kvs,m=>if nxs (kvs.map (·.2)) then .ok (.cell (m.next true)) (m.push (.dct kvs) true) else .stuck
 | .g,kvs,m=>if nls (kvs.map (·.2)) then .ok (.cell (m.next false)) (m.push (.dct kvs) false) else .stuck
def Zdh (z:Md):FE:=fun _ m=>newD z [] m
/-- the same of a dict that lies already,beside the cells -/
theorem ZhS {c':Anc} {m':Store} {H':Hp} {z:Md} {kvs:List (PyData×D)} {es:List (NestedKey×V×V)} {u0:HO} {p:Addr} {Q:VK} (g:Gd X.kw c c' m' H H') (h0:H p=none) (hn:¬Has c' p) (ha:H' p=some u0) (lu:JK u0=true) (hv:qaF X.kw H' c' es kvs) (h:Want X W c H σ (newD z kvs m') Q):QF Q (.ref p) (upd H' p (gdO X.w p es)):=by
 have neF:∀b o,H b=some o→b≠p:=fun b o e z=>by rw [z,h0] at e;cases e
 have side:∀u,Gd X.kw c c' m' H (upd H' p u):=fun u=>by
  have ex:Ext H' (upd H' p u):=Ext.qv8 ha lu
  refine ⟨g.pre,g.ext.trans ex,g.new,fun b u hb e=>by rw [upd_ne (neF b u e)];exact g.frame b u hb e,g.rel.len,g.rel.inj,fun i b x h1 h2=>(g.rel.at_ i b x h1 h2).mono ex (Pre.refl _) fun zs _ e=>?_⟩
  rw [upd_ne (fun z=>hn ⟨i,by rw [←z];exact h1⟩)]
  exact e
 have hv2:∀u,qaF X.kw (upd H' p u) c' es kvs:=fun u=>hv.mono (Ext.qv8 ha lu) (Pre.refl _)
 have push:∀loc,qdL X.kw.cold (upd H' p (gdO X.w p es)) (qlL c' (c'.next loc)) p (.dct kvs)→Gd X.kw c (c'.push p loc) (m'.push (.dct kvs) loc) H (upd H' p (gdO X.w p es)):=fun loc cr=>by
  have s:=side (gdO X.w p es)
  exact ⟨s.pre.trans (Wy _ _ _),s.ext,fun b hb=>(KN hb).elim (s.new b) fun e => .inr (by rw [e];exact h0),s.frame,s.rel.qvq loc hn cr⟩
 cases z with
 | z =>
  right
  refine ⟨p,_,rfl,upd_same,trivial,fun o=>?_⟩
  rw [upd_upd]
  exact h c' _ _ (side _) (ZhJ (hv2 _) upd_same)
 | l =>
  left
  cases hx:nxs (kvs.map (·.2)) with
  | false=>rw [newD,hx] at h;exact h.elim
  | true =>
   rw [newD,hx] at h
   have v2:=hv2 (gdO X.w p es)
   refine h _ _ _ (push true ⟨es,upd_same,v2.key,v2.dp,v2.nd,RP.kw (K:=X.kw) (K':=X.kw.cold) rfl rfl v2.kd,v2.vd.cold hx⟩) ?_
   unfold VD
   exact ⟨p,by rw [←Jb g.rel];exact JQ _ _ _,rfl⟩
 | g =>
  left
  cases hx:nls (kvs.map (·.2)) with
  | false=>rw [newD,hx] at h;exact h.elim
  | true =>
   rw [newD,hx] at h
   have v2:=hv2 (gdO X.w p es)
   refine h _ _ _ (push false ⟨es,upd_same,v2.key,v2.dp,v2.nd,RP.kw (K:=X.kw) (K':=X.kw.cold) rfl rfl v2.kd,(VDs.nl _ v2.vd hx).cold (YX _ hx)⟩) ?_
   unfold VD
   exact ⟨p,by rw [←Jb g.rel];exact JQ _ _ _,rfl⟩
end
end L2.Dn
namespace L2.Dn
open PySem PySem.Spec PyProof.Rows L2
def ZaN:List Ent→List Ent→List Ent
 | xs,[]=>xs
 | xs,e::r=>ZaN (Y4 xs e.1 e.2.1 e.2.2) r
theorem ZiA (xs:List Ent) (k:NestedKey) (v u:Value):(Y4 xs k v u).length≤xs.length+1:=by
 unfold Y4
 split
 ·rw [List.length_map];omega
 ·simp
section
variable {P:Program} {w:World} {A:Around} {E:Value→Shared→Prop} {d:Addr}
theorem ZeO (hu:A.units+8 < cLine):∀(vs:List Ent) (xs:List Ent) (s:Shared) (Q:PUnit→Shared→Prop),(∀x∈vs,IsK s.heap x.1 x.2.1)→SQ w s.heap d xs→xs.length+vs.length≤sizeLine →
  (∀h' tk,SQ w h' d (ZaN xs vs)→Heap.SameBut d s.heap h'→Q PUnit.unit { s with heap:=h',toks:=tk }) →
  wpAny (model P w) A (forIn (vs.map fun x=>(x.2.1,x.2.2)) PUnit.unit fun (x:Value×Value) (_:PUnit)=>(do dictSet d x.1 x.2;pure (ForInStep.yield PUnit.unit):Sem (ForInStep PUnit))) Q E s
 | [],xs,s,Q,_,hm,_,hQ=>by
  rw [List.map_nil,List.forIn_nil]
  exact wpAny_pure (hQ s.heap s.toks hm (Heap.SameBut.refl _ _))
 | x::vs,xs,s,Q,hk,hm,hz,hQ=>by
  rw [List.length_cons] at hz
  rw [List.map_cons,List.forIn_cons]
  refine wpAny_bind (wpAny_bind (ZeL hu (hk x List.mem_cons_self) hm (by omega) fun h1 m1 s1=>wpAny_pure ?_))
  obtain ⟨o,es,ep,ho,_,hd,_⟩:=id hm
  refine ZeO hu vs _ _ Q (fun y hy=>Wk (hk y (List.mem_cons_of_mem _ hy)) ho hd s1) m1 (show (Y4 xs x.1 x.2.1 x.2.2).length+vs.length≤sizeLine by have:=ZiA xs x.1 x.2.1 x.2.2;omega) fun h2 tk m2 s2=>?_
  exact hQ h2 tk m2 (s1.trans s2)
theorem Zjo {s:Shared} {prs:List (Sem Value×Sem Value)} {Q:Addr→Shared→Prop} (hu:A.units+8 < cLine) (hl:prs.length≤15)
  (h:wpAny (model P w) A (evalPairs prs) (fun vs s1=>∃es:List Ent,vs=es.map (fun x=>(x.2.1,x.2.2))∧(∀x∈es,IsK s1.heap x.1 x.2.1)∧SQ w s1.heap s.heap.objs.size [] ∧
   ∀h' tk,SQ w h' s.heap.objs.size (ZaN [] es)→Heap.SameBut s.heap.objs.size s1.heap h'→Q s.heap.objs.size { s1 with heap:=h',toks:=tk }) E
   {s with heap:=s.heap.push ⟨.type "dict",none,.dict #[] 0,#[]⟩ }):wpAny (model P w) A (subDict prs) Q E s:=by
 unfold subDict
 refine wpAny_bind (wpAny_alloc (wpAny_bind (wpAny_holding ?_)))
 rw [if_pos hl]
 refine wpAny_bind (wpAny_mono (wpAny_evalPairs_len h) ?_ fun _ _ e=>e)
 rintro vs s1 ⟨e1,es,rfl,h1,h2,h3⟩
 have z:([]:List Ent).length+es.length≤sizeLine:=by
  rw [List.length_map] at e1
  rw [sizeLine_eq,List.length_nil]
  omega
 exact wpAny_holding (wpAny_bind (ZeO hu es [] s1 _ h1 h2 z fun h' tk m' s'=>wpAny_pure (wpAny_pure (h3 h' tk m' s'))))
end
/-- the pairs of a display -/
abbrev FP:=Rho→Store→Res (List (D×D))
def ZaE:FP:=fun _ m => .ok [] m
def Kd (fk fv:FE) (g:FP):FP:=fun ρ m=>(fk ρ m).bind fun k m1=>(fv ρ m1).bind fun v m2=>(g ρ m2).bind fun r m3 => .ok ((k,v)::r) m3
def qlP (X:Cx) (W:WX) (c:Anc) (H:Hp) (σ:St) (r:Res (List (D×D))) (Q:List (V×V)→Hp→Prop):Prop:=match r with
 | .ok ds m'=>∀c' vs H',Gd X.kw c c' m' H H'→VDs X.kw H' c' (vs.map (·.1)) (ds.map (·.1))→VDs X.kw H' c' (vs.map (·.2)) (ds.map (·.2))→Q vs H'
 | .exc x m'=>∀c' cls dd H',Gd X.kw c c' m' H H'→qrz X.kw H' c' x cls dd→W cls dd σ H'
 | .stuck=>False
def WP (X:Cx) (pos:Pos) (ks:List (Option Expr)) (vs:List Expr) (σ:St) (H:Hp) (Q:List (V×V)→Hp→Prop):Prop:=∀(pins:List (Addr×Obj)) (s:Shared),Inv X pins σ H s →
 wpAny (model X.prog X.w) X.A (evalPairs (pairTrees ks vs X.env pos)) (fun us s'=>∃ps H',Inv X pins σ H' s'∧VV ps us∧Q ps H') X.xe s
def DPs (X:Cx) (W:WX) (pos:Pos) (ks:List (Option Expr)) (vs:List Expr) (f:FP):Prop:=∀(c:Anc) (ρ:Rho) (m:Store) (σ:St) (H:Hp) (Q:List (V×V)→Hp→Prop),Q9 X.kw c m H→Slo X.kw H c ρ σ→qlP X W c H σ (f ρ m) Q→WP X pos ks vs σ H Q
section
variable {X:Cx} {W:WX} {a b e k v:Expr} {ks:List (Option Expr)} {vs:List Expr} {fk fv:FE} {g:FP} {pos:Pos} {c:Anc} {ρ:Rho} {m:Store} {σ:St} {H:Hp}
theorem qlP.shift {c':Anc} {H':Hp} {m':Store} {r:Res (List (D×D))} {Q:List (V×V)→Hp→Prop} (gd:Gd X.kw c c' m' H H') (h:qlP X W c H σ r Q):qlP X W c' H' σ r Q:=by
 cases r with
 | ok d m1=>exact fun c1 v H1 g1 h1 h2=>h c1 v H1 (gd.trans g1) h1 h2
 | exc x m1=>exact fun c1 cls dd H1 g1 hv=>h c1 cls dd H1 (gd.trans g1) hv
 | stuck=>exact h
theorem ZfL:DPs X W pos [] [] ZaE:=fun c ρ m σ H Q r s w pins st I=>pairTrees_nil_walk ⟨[],H,I,.nil,w c [] H (Gd.refl r) (by simp [VDs]) (by simp [VDs])⟩
theorem DE.qwC {f:FE} {kk:D→Store→Res (List (D×D))} {Q:VK} {Q':List (V×V)→Hp→Prop} (h:DE X W a f) (r:Q9 X.kw c m H) (s:Slo X.kw H c ρ σ) (hb:qlP X W c H σ ((f ρ m).bind kk) Q')
  (q:∀d m1 c1 v H1,Q9 X.kw c1 m1 H1→Slo X.kw H1 c1 ρ σ→Gd X.kw c c1 m1 H H1→VD X.kw H1 c1 v d→qlP X W c1 H1 σ (kk d m1) Q'→Q v H1):WE X a σ H Q :=
 h.then_ (WB:=fun c H r=>qlP X W c H σ r Q') r s hb (fun _ _ z=>z) (fun _ _ _ _ z=>z) (fun g z=>z.shift g) q
theorem ZfK (hk:DE X W k fk) (hv:DE X W v fv) (hr:DPs X W pos ks vs g):DPs X W pos (some k::ks) (v::vs) (Kd fk fv g):=fun c ρ m σ H Q r s w pins st I=>by
 refine pairTrees_cons_walk (thn ((hk.qwC (Q:=fun x H1=>WE X v σ H1 fun y H2=>WP X pos ks vs σ H2 fun ps H3=>Q ((x,y)::ps) H3) r s w (fun dk m1 c1 vk H1 r1 s1 g1 h1 w1=>?_)).go pins st I) ?_)
 ·refine hv.qwC r1 s1 w1 fun dv m2 c2 vv H2 r2 s2 g2 h2 w2=>?_
  refine hr c2 ρ m2 σ H2 _ r2 s2 ?_
  cases q:g ρ m2 with
  | stuck=>rw [q] at w2;exact w2
  | exc x m3=>rw [q] at w2;exact w2
  | ok ds m3 =>
   rw [q] at w2
   intro c3 ps H3 g3 k1 k2
   refine w2 c3 _ H3 g3 ?_ ?_
   ·show VDs X.kw H3 c3 (vk::ps.map (·.1)) (dk::ds.map (·.1))
    unfold VDs
    exact ⟨_,_,rfl,g3.vd (g2.vd h1),k1⟩
   ·show VDs X.kw H3 c3 (vv::ps.map (·.2)) (dv::ds.map (·.2))
    unfold VDs
    exact ⟨_,_,rfl,g3.vd h2,k2⟩
 ·rintro u s1 ⟨x,H1,I1,rx,q1⟩
  refine thn (q1.go pins s1 I1) ?_
  rintro u2 s2 ⟨y,H2,I2,ry,q2⟩
  refine thn (q2 pins s2 I2) ?_
  rintro us s3 ⟨ps,H3,I3,rp,q3⟩
  exact ⟨(x,y)::ps,H3,I3,.cons ⟨rx,ry⟩ rp,q3⟩
/-- the entries of a display,later ones for earlier ones -/
def Vq:List (PyData×D)→List (D×D)→Option (List (PyData×D))
 | kvs,[]=>some kvs
 | kvs,(.p kd,d)::r=>match YB (.p kd) with
  | some k=>Vq (putD kvs kd k d) r
  | none=>none
 | _,_=>none
theorem Zey {pins:List (Addr×Obj)} {s:Shared} {P:Program} (I:Inv X pins σ H s):∀{ds:List (D×D)} {ps:List (V×V)} {us:List (Value×Value)} {kvs kvs':List (PyData×D)} {es:List (NestedKey×V×V)} {xs:List Ent},VV ps us→VDs X.kw H c (ps.map (·.1)) (ds.map (·.1))→VDs X.kw H c (ps.map (·.2)) (ds.map (·.2)) →
  Vq kvs ds=some kvs'→qaF X.kw H c es kvs→Paired Yh es xs→∃(en:List Ent) (es':List (NestedKey×V×V)),us=en.map (fun x=>(x.2.1,x.2.2))∧(∀x∈en,IsK s.heap x.1 x.2.1)∧qaF X.kw H c es' kvs'∧Paired Yh es' (ZaN xs en)
 | [],ps,us,kvs,kvs',es,xs,rv,h1,h2,e,r,p=>by
  cases e
  cases ps with
  | cons p ps=>simp [VDs] at h1
  | nil =>
   cases rv
   exact ⟨[],es,rfl,fun x hx=>(by cases hx),r,p⟩
 | (dk,dv)::ds,ps,us,kvs,kvs',es,xs,rv,h1,h2,e,r,p=>by
  cases ps with
  | nil=>simp [VDs] at h1
  | cons q ps =>
   simp only [List.map_cons] at h1 h2
   unfold VDs at h1 h2
   obtain ⟨_,_,z1,h1,h1'⟩:=h1
   cases z1
   obtain ⟨_,_,z2,h2,h2'⟩:=h2
   cases z2
   cases rv with
   | @cons _ u _ us rq rv =>
    cases dk with
    | p kd =>
     unfold Vq at e
     cases hk:YB (.p kd) with
     | none=>rw [hk] at e;cases e
     | some k =>
      rw [hk] at e
      obtain ⟨k1,k2⟩:=ZdR hk
      have hkd:DpZ X.kw H q.1 kd:=by unfold VD at h1;exact h1
      obtain ⟨en,es',e1,e2,e3,e4⟩:=Zey (P:=P) I rv h1' h2' e (r.put k1 k2 hkd h2) (Zds rq.1 rq.2 p)
      refine ⟨(k,u.1,u.2)::en,es',by rw [e1];rfl,fun x hx=>?_,e3,e4⟩
      rcases List.mem_cons.mp hx with rfl | hx
      ·exact KZ I (c:=c) (by unfold VD;exact hkd) hk rq.1
      ·exact e2 x hx
    | _=>cases e
def U8 (z:Md) (g:FP):FE:=fun ρ m=>(g ρ m).bind fun ds m1=>match Vq [] ds with
 | some kvs=>newD z kvs m1
 | none => .stuck
theorem Zfz (z:Md) (hu:X.A.units+65 < cLine) (h:DPs X W pos ks vs g) (hall:ks.all (·.isSome)=true:=by rfl) (hl:ks.length=vs.length:=by rfl) (h0:ks≠[]:=by intro z;cases z) (h15:ks.length≤15:=by decide):DE X W (.Dict ks vs pos) (U8 z g):=fun c ρ m σ H Q r s w=>WE.frz <| .mk fun pins st I=>by
 have hn:=pairTrees_length ks vs X.env pos hall hl
 have ne:pairTrees ks vs X.env pos≠[]:=fun z=>by
  rw [z] at hn
  exact h0 (List.length_eq_zero_iff.mp hn.symm)
 have hp:H st.heap.objs.size=none:=I.hok.fresh (Nat.le_refl _)
 have np:¬Has c st.heap.objs.size:=r.not hp
 have J:=I.laid (a:=st.heap.objs.size) (o:=gdO X.w st.heap.objs.size []) (h':=st.heap.push ⟨.type "dict",none,.dict #[] 0,#[]⟩) (t':=st.toks) (fun _ _ q=>Heap.get?_push_of_some _ q) (Nat.le_refl _) (Zgy st.heap I.big)
 have g0:Gd X.kw c c m H (upd H st.heap.objs.size (gdO X.w st.heap.objs.size [])):=r.lay hp
 rw [arm_eval_Dict,zip_pairTrees ks vs X.env pos hall hl,dictDisplay_pairs _ ne (by rw [hn];omega)]
 refine wpAny_bind (wpAny_standAt (wpAny_bind (Zjo (Q:=fun d s'=>wpAny (model X.prog X.w) X.A (pure (Value.ref d)) (EP X pins σ (QF Q)) X.xe s') (by omega) (by rw [hn];exact h15) ?_)))
 refine wpAny_mono (h c ρ m σ _ (fun ps H2=>∃c2 m2 kvs ds,Gd X.kw c c2 m2 H H2∧H2 st.heap.objs.size=some (gdO X.w st.heap.objs.size [])∧¬Has c2 st.heap.objs.size∧VDs X.kw H2 c2 (ps.map (·.1)) (ds.map (·.1))∧VDs X.kw H2 c2 (ps.map (·.2)) (ds.map (·.2))∧Vq [] ds=some kvs∧Want X W c H σ (newD z kvs m2) Q) g0.rel (g0.slots s) ?_ pins _ J) ?_ fun _ _ e=>e
 ·unfold U8 at w
  cases q:g ρ m with
  | stuck=>rw [q] at w;exact w
  | exc x m1=>rw [q] at w;exact fun c1 cls dd H1 g1 hx=>w c1 cls dd H1 (g0.trans g1) hx
  | ok ds m1 =>
   rw [q] at w
   intro c1 ps H1 g1 k1 k2
   have w:Want X W c H σ (match Vq [] ds with | some kvs=>newD z kvs m1 | none => .stuck) Q:=w
   cases q2:Vq [] ds with
   | none=>rw [q2] at w;exact w.elim
   | some kvs =>
    rw [q2] at w
    refine ⟨c1,m1,kvs,ds,g0.trans g1,g1.frame _ _ np upd_same,fun z=>?_,k1,k2,q2,w⟩
    rcases g1.new _ z with y | y
    ·exact np y
    ·rw [upd_same] at y;cases y
 ·rintro us s1 ⟨ps,H2,I2,rp,c2,m2,kvs,ds,gg,p2,np2,k1,k2,q2,w⟩
  obtain ⟨hS,xs,hg,hx⟩:=JD (es:=[]) (kvs:=[]) (c:=c2) I2 (.inl p2) ⟨rfl,fun e he=>(by cases he),List.nodup_nil,.nil,by simp [VDs]⟩
  cases hx
  obtain ⟨en,es',e1,e2,e3,e4⟩:=Zey (P:=X.prog) I2 rp k1 k2 q2 (es:=[]) (xs:=[]) ⟨rfl,fun e he=>(by cases he),List.nodup_nil,.nil,by simp [VDs]⟩ .nil
  refine ⟨en,e1,e2,hg,fun h' tk m' s'=>wpAny_pure ⟨.ref st.heap.objs.size,upd H2 st.heap.objs.size (gdO X.w st.heap.objs.size es'),?_,rfl,?_⟩⟩
  ·refine I2.write (t':=tk) (x:=st.heap.objs.size) (e:=st.heap.objs.size) (o:=gdO X.w st.heap.objs.size es') (by rw [p2];exact True.intro) (.inl rfl) (fun b u hb e=>(s'.2 b hb).trans e) ?_ (ZbE hS m' e4)
   obtain ⟨o,_,_,e,_⟩:=m'
   exact ⟨o,e⟩
  ·exact ZhS gg hp np2 p2 rfl e3 w
end
end L2.Dn
namespace L2.Dn
open PySem PySem.Spec PyProof.Rows L2
section
variable {P:Program} {w:World} {A:Around} {E:Value→Shared→Prop} {s:Shared} {d:Addr} {xs:List Ent} {ens:Array DictEntry} {ep:Nat} {k:NestedKey} {v u:Value}
theorem SQ.raw (h:SQ w s.heap d xs):∃ens ep,s.heap.DictRaw d ens ep∧ens.toList=xs.map (Yq w)∧ens.size=xs.length:=by
 obtain ⟨o,es,ep,h1,h2,h3,h4,_⟩:=h
 exact ⟨es,ep,⟨o,h1,h2,h3⟩,h4,by rw [←Array.length_toList,h4,List.length_map]⟩
theorem Zd0 {Q:Value→Shared→Prop} (hd:(d == sysModules)=false) (hm:s.heap.DictRaw d ens ep) (hf:(ens.size:Int) < 2 ^ 63) (h:∀t tk,Q (.int ens.size t) { s with toks:=tk }) :
  wpAny (model P w) A (Builtin.«len» ⟨[.ref d],[]⟩) (fun fin s'=>∃r,fin = .done (.ret r)∧Q r s') E s:=by
 unfold Builtin.«len»
 refine wpAny_bind (m:=oneArg "len" _) (wpAny_pure ?_)
 refine wpAny_bind (m:=callSpecial? (.ref d) (Str.ofString "__len__")) (wpAny_callSpecial?_slot (name:=Str.ofString "__len__") hm.typeIs F.slot_dict_len (call_len_raw hd hm ?_))
 refine wpAny_bind (wpAny_holding (wpAny_pure (wpAny_bind (wpAny_letGo ?_))))
 show wpAny _ _ (if ((ens.size:Nat):Int) < 0 then _ else _) _ _ _
 rw [if_neg (by omega)]
 show wpAny _ _ (if ((ens.size:Nat):Int) ≥ 2 ^ 63 then _ else _) _ _ _
 rw [if_neg (by omega)]
 exact wpAny_bind (wpAny_mkInt (wpAny_pure ⟨_,rfl,h _ _⟩))
theorem Zhz {Q:Value→Shared→Prop} (hd:(d == sysModules)=false) (hm:s.heap.DictRaw d ens ep) (hf:(ens.size:Int) < 2 ^ 63) (h:∀t tk,Q (.int ens.size t) { s with toks:=tk }):wpAny (model P w) A (call (.builtin "len") [.ref d]) Q E s :=
 Calls.call_function_entry kind_len plain_len entry_len (args_len1 _) (Zd0 hd hm hf h)
theorem ZjZ {Q:Bool→Shared→Prop} (hd:(d == sysModules)=false) (hm:s.heap.DictRaw d ens ep) (hf:(ens.size:Int) < 2 ^ 63) (h:∀tk,Q ((ens.size:Int) != 0) { s with toks:=tk }):wpAny (model P w) A (truthy (.ref d)) Q E s:=by
 have key:wpAny (model P w) A (runValue (.builtin "len" ⟨[.ref d],[]⟩)) (fun r s'=>∃t,r = .int ens.size t∧Q ((ens.size:Int) != 0) s') E s:=by
  refine wpAny_runValue (codeAny_builtin entry_len ?_)
  rw [Around.under_plainId plain_len _]
  refine wpAny_mono (Zd0 (Q:=fun r s'=>∃t,r = .int ens.size t∧Q ((ens.size:Int) != 0) s') hd hm hf fun t tk=>⟨t,rfl,h tk⟩) ?_ fun _ _ e=>e
  rintro fin s' ⟨r,rfl,hq⟩
  exact hq
 unfold truthy
 first
  | refine wpAny_bind (wpAny_callSpecial?_none (name:=Str.ofString "__bool__") hm.typeIs noBool_dict ?_)
  | refine wpAny_bind (wpAny_pure (wpAny_bind (wpAny_callSpecial?_none (name:=Str.ofString "__bool__") hm.typeIs noBool_dict ?_)))
 first
  | refine wpAny_bind (wpAny_specialOf (name:=Str.ofString "__len__") hm.typeIs F.slot_dict_len.lookup ?_)
  | refine wpAny_bind (wpAny_pure (wpAny_bind (wpAny_specialOf (name:=Str.ofString "__len__") hm.typeIs F.slot_dict_len.lookup ?_)))
 have fin:∀r s',(∃t,r=Value.int ens.size t∧Q ((ens.size:Int) != 0) s')→∃t,r=Value.int ens.size t∧Q ((ens.size:Int) != 0) s':=fun _ _ z=>z
 first
  | exact wpAny_bind (wpAny_mono key (fun r s' h'=>by obtain ⟨t,rfl,hq⟩:=h';exact wpAny_pure hq) fun _ _ e=>e)
  | exact wpAny_bind (wpAny_pure (wpAny_bind (wpAny_mono key (fun r s' h'=>by obtain ⟨t,rfl,hq⟩:=h';exact wpAny_pure hq) fun _ _ e=>e)))
end
def ZdG:D→List D→Store→OD
 | d,[y],m=>match YH d m,YB y with
  | some kvs,some k=>some ((lkD kvs k).getD (.p .none),m)
  | _,_=>none
 | d,[y,z],m=>match YH d m,YB y with
  | some kvs,some k=>some ((lkD kvs k).getD z,m)
  | _,_=>none
 | _,_,_=>none
section
variable {X:Cx} {W:WX} {a b e o:Expr} {es rest:List Expr} {fa fb f fo:FE} {fl:FI} {pos apos cpos:Pos} {c:Anc} {ρ:Rho} {m:Store} {σ:St} {H:Hp} {name:Str}
theorem Zdm {K:KW} {es:List (NestedKey×V×V)} {kvs:List (PyData×D)} (r:qaF K H c es kvs):es.length=kvs.length:=by
 have:=congrArg List.length r.key
 simpa using this
/-- a dict's own methods -/
def dmE (g:D→List D→Store→OD) (fo:FE) (fl:FI):FE:=fun ρ m=>(fo ρ m).bind fun d m1=>if (YH d m1).isSome then (fl ρ m1).bind fun ds m2=>lift (g d ds m2) else .stuck
def Jw (d:D) (m:Store):Option Bool:=match ZaT d m with
 | some b=>some b
 | none=>match YH d m with
  | some kvs=>if kvs.length≤sizeLine then some (!kvs.isEmpty) else none
  | none=>none
theorem ZeS {pins:List (Addr×Obj)} {s:Shared} {d:D} {v:V} {u:Value} {k:Bool} {A:Around} {E:Value→Shared→Prop} {Q:Bool→Shared→Prop} (I:Inv X pins σ H s) (r:Q9 X.kw c m H) (hv:VD X.kw H c v d) (e:Jw d m=some k) (ru:RelV v u)
  (q:∀s',Inv X pins σ H s'→Q k s'):wpAny (model X.prog X.w) X.A (truthy u) Q X.xe s:=by
 unfold Jw at e
 cases e1:ZaT d m with
 | some b =>
  rw [e1] at e
  cases e
  refine thn (tru_ok pins s σ H v u (fun c H2=>c=k∧H2=H) I ru ⟨k,ZjY r hv e1,rfl,rfl⟩) ?_
  rintro c2 s2 ⟨H2,I2,rfl,rfl⟩
  exact q s2 I2
 | none =>
  rw [e1] at e
  cases e2:YH d m with
  | none=>rw [e2] at e;cases e
  | some kvs =>
   rw [e2] at e
   dsimp only at e
   split at e
   ·rename_i hz
    cases e
    obtain ⟨a,en,rfl,g1,g2⟩:=Ke r hv e2
    cases ru
    obtain ⟨hS,ys,hg,hp⟩:=JD I g1 g2
    obtain ⟨ens,ep,y1,y2,y3⟩:=hg.raw
    have l1:=Zdm g2
    have l2:en.length=ys.length:=Paired.length hp
    have ez:((ens.size:Int) != 0)=!kvs.isEmpty:=by
     have:ens.size=kvs.length:=by omega
     rw [this]
     cases kvs <;> simp <;> omega
    refine ZjZ hS y1 (by rw [sizeLine_eq] at hz;omega) fun tk=>?_
    rw [ez]
    exact q _ (I.tok tk)
   ·cases e
def tvE (f:FE):Rho→Store→Res Bool:=fun ρ m=>(f ρ m).bind fun d m1=>match Jw d m1 with
 | some k => .ok k m1
 | none => .stuck
theorem VJ (h:DE X W e f) (he:∀whole,isTrue e X.env whole=(do let v ←whole;standAt e.pos;holding [v] (truthy v)):=by intro _;rfl):DT X W e (tvE f):=fun c ρ m σ H Q r s w => .mk fun pins st I=>by
 refine isTrue_plain (thn ((h.quK (Q:=fun v H1=>∃c1 m1 d k,Q9 X.kw c1 m1 H1∧VD X.kw H1 c1 v d∧Jw d m1=some k∧Q k H1) r s w (fun d m1 c1 v H1 r1 s1 g1 h1 w1=>?_)).go pins st I) ?_) (he _)
 ·cases q:Jw d m1 with
  | none=>rw [q] at w1;exact w1.elim
  | some k=>rw [q] at w1;exact ⟨c1,m1,d,k,r1,h1,q,w1 c1 H1 (Gd.refl r1)⟩
 ·rintro v s1 ⟨x,H1,I1,r1,c1,m1,d,k,k1,k2,k3,q1⟩
  exact ZeS (A:=X.A) (E:=X.xe) I1 k1 k2 k3 r1 fun s' I'=>⟨H1,I',q1⟩
def Za3 (f g:FE):FE:=fun ρ m=>(f ρ m).bind fun x m1=>match Jw x m1 with
 | some true=>g ρ m1
 | some false => .ok x m1
 | none => .stuck
theorem Zfx (h:DE X W a fa) (h2:DE X W (.BoolOp .And (b::rest) pos) fb):DE X W (.BoolOp .And (a::b::rest) pos) (Za3 fa fb):=fun c ρ m σ H Q r s w => .mk fun pins st I=>by
 refine BoolOp_and (thn ((h.HW (Q:=fun v H1=>∃c1 m1 d k,Q9 X.kw c1 m1 H1∧VD X.kw H1 c1 v d∧Jw d m1=some k∧if k=true then WE X (.BoolOp .And (b::rest) pos) σ H1 Q else Q v H1) r s w (fun d m1 c1 v H1 r1 s1 g1 h1 w1=>?_)).go pins st I) ?_)
 ·cases q:Jw d m1 with
  | none=>rw [q] at w1;exact w1.elim
  | some k =>
   rw [q] at w1
   refine ⟨c1,m1,d,k,r1,h1,q,?_⟩
   cases k with
   | true=>rw [if_pos rfl];exact h2 c1 ρ m1 σ H1 Q r1 s1 w1
   | false=>rw [if_neg Bool.false_ne_true];exact w1.now r1 h1
 ·rintro v s1 ⟨x,H1,I1,r1,c1,m1,d,k,k1,k2,k3,q1⟩
  refine ZeS (A:=X.A) (E:=X.xe) I1 k1 k2 k3 r1 fun s' I'=>?_
  cases k with
  | true=>rw [if_pos rfl] at q1;exact q1.go pins s' I'
  | false=>rw [if_neg Bool.false_ne_true] at q1;exact ⟨x,H1,I',r1,q1⟩
end
end L2.Dn
namespace L2.Dn
open PySem PySem.Spec PyProof.Rows L2
mutual
/-- the hash of a key without texts -/
def hI:NestedKey→Option Int
 | .none=>some (reduceHash 0xFCA86420)
 | .num i=>some (hashInt i)
 | .text _=>none
 | .tup ks=>(hIs ks).map fun hs=>reduceHash (Builtin.Tuple.tupleHashOf hs)
def hIs:List NestedKey→Option (List Int)
 | []=>some []
 | k::ks=>match hI k,hIs ks with
  | some h,some hs=>some (h::hs)
  | _,_=>none
end
section
variable {P:Program} {w:World} {A:Around} {E:Value→Shared→Prop} {s:Shared} {d o:Addr} {xs:List Ent}
theorem SQ.same {h h':Heap} (hm:SQ w h o xs) {oo:Obj} {es:Array DictEntry} {ep:Nat} (h1:h.get? d=some oo) (h2:oo.data = .dict es ep) (hne:d≠o) (hs:Heap.SameBut d h h'):SQ w h' o xs:=by
 obtain ⟨ob,en,e,g1,g2,g3,g4,g5,g6⟩:=hm
 exact ⟨ob,en,e,(hs.2 o (Ne.symm hne)).trans g1,g2,g3,g4,fun x hx=>Wk (g5 x hx) h1 h2 hs,g6⟩
end
section
variable {X:Cx} {W:WX} {a b e o:Expr} {es rest:List Expr} {fa fb f fo:FE} {fl:FI} {pos apos cpos p:Pos} {c:Anc} {ρ:Rho} {m:Store} {σ:St} {H:Hp} {name:Str}
def Ja (ds:List D) (m:Store):OD:=match JG ds m with
 | some r=>some r
 | none=>match ds with
  | [d]=>match YH d m with
   | some kvs=>if kvs.length≤sizeLine then some (.p (.int kvs.length),m) else none
   | none=>none
  | _=>none
theorem Zfm:CallR X (.builtin "len") (Jd X.kw Ja):=by
 intro pins s σ H xs us Q I rv h
 obtain ⟨c,m,ds,r,hv,w⟩:=h
 unfold Ja at w
 cases e:JG ds m with
 | some q=>rw [e] at w;exact call_lenD pins s σ H xs us Q I rv ⟨c,m,ds,r,hv,by rw [e];exact w⟩
 | none =>
  rw [e] at w
  dsimp only at w
  split at w
  ·rename_i d
   split at w
   ·rename_i kvs hd
    split at w
    ·rename_i hz
     obtain ⟨v,rfl,hv1⟩:=VDs.M9 hv
     obtain ⟨u,rfl,ru⟩:=vals1 rv
     obtain ⟨a,en,rfl,g1,g2⟩:=Ke r hv1 hd
     cases ru
     obtain ⟨hS,ys,hg,hp⟩:=JD I g1 g2
     obtain ⟨ens,ep,y1,y2,y3⟩:=hg.raw
     have l1:=Zdm g2
     have l2:en.length=ys.length:=Paired.length hp
     have el:ens.size=kvs.length:=by omega
     refine Zhz hS y1 (by rw [sizeLine_eq] at hz;omega) fun t tk=>⟨.int kvs.length,H,I.tok tk,⟨t,by rw [el]⟩,w.now r (VD.int.mpr rfl)⟩
    ·exact w.elim
   ·exact w.elim
  ·exact w.elim
end
end L2.Dn
namespace L2.Dn
open PySem PySem.Spec PyProof.Rows L2
/-- a class of the module whose instances are plain,or an exception class -/
structure ClT (K:PySem.W.Frag) (Ca:Addr):Prop where
 cl:Cls K Ca
 pc:PySem.W.plainGet K Ca "__class__"=true
 ha:PySem.W.findIn K (.ref Ca) "__class__"=some (some (.builtin "object.__class__"))
 hn:PySem.W.specialIn K (.builtin "object.__class__") "__get__"=some (some (.builtin "getset_descriptor.__get__"))
 ht:PySem.W.takesIn K (.builtin "object.__class__")=some true
 hm:PySem.W.mroIn K Ca (.type "object")=some true
structure XcT (K:PySem.W.Frag) (Ca:Addr):Prop where
 oex:OexC K Ca
 xf:XfC K Ca
 ec:ExcC K Ca
/-- exceptions of a class,instances of a class,read by their fields -/
def Yy (K:PySem.W.Frag) (Ca:Addr) (f:Str):Prop:=XcT K Ca∧PySem.W.findIn K (.ref Ca) f=some none
def Yx (K:PySem.W.Frag) (Ca:Addr) (f:Str):Prop:=ClT K Ca∧NoAttr K Ca f
def Vj (l:List Str) (C:Str) (f:Str) (ns:List Str) (xs:List D) (m:Store):OD:=if C∈l then ((ns.zip xs).lookup f).map fun d=>(d,m) else none
def Vi (lx l:List Str) (f:Str) (d:D) (m:Store):OD:=match d with
 | .exn C ns xs=>Vj lx C f ns xs m
 | .exv C ns xs=>Vj lx C f ns xs m
 | .obj C ns xs=>Vj l C f ns xs m
 | .cell i=>match m.at_ i with
  | some (.ins C fs)=>Vj l C f (fs.map (·.1)) (fs.map (·.2)) m
  | _=>none
 | _=>none
section
variable {K:KW} {H:Hp} {c:Anc}
theorem ZbD {fs:List (Str×V)} {ns:List Str} (h:fs.map (·.1)=ns):fs=ns.zip (fs.map (·.2)):=by
 subst h
 induction fs with
 | nil=>rfl
 | cons q fs ih=>rw [List.map_cons,List.map_cons,List.zip_cons_cons,←ih]
theorem Zaa {f:Str}:∀{ns:List Str} {vs:List V} {xs:List D} {d:D},VDs K H c vs xs→(ns.zip xs).lookup f=some d→∃v,(ns.zip vs).lookup f=some v∧VD K H c v d
 | [],_,_,_,_,e=>by simp at e
 | n::ns,vs,[],d,h,e=>by simp at e
 | n::ns,vs,x::xs,d,h,e=>by
  unfold VDs at h
  obtain ⟨v,r,rfl,h1,h2⟩:=h
  simp only [List.zip_cons_cons,List.lookup_cons] at e ⊢
  cases q:f == n with
  | true=>rw [q] at e;cases e;exact ⟨v,rfl,h1⟩
  | false=>rw [q] at e;exact Zaa h2 e
end
section
variable {X:Cx} {W:WX} {a b e o:Expr} {es rest:List Expr} {fa fb f fo:FE} {fl:FI} {pos apos cpos p:Pos} {c:Anc} {ρ:Rho} {m:Store} {σ:St} {H:Hp} {name:Str}
theorem Zg5 {P:Program} {w:World} {h:Heap} {a C dx:Addr} {fs:List (Str×V)} (hok:HOk P w H h) (e:Rd H a (.ins C dx fs)):∃mA,ObjM h a dx C mA∧(∀f,RelO (fs.lookup f) (mA f))∧PySem.Within mA (fs.map (·.1)):=by
 obtain ⟨d,z,ne,ob,mA,n,r,q⟩:=(show ObjOk P w H h a (.ins C dx fs) from e.ok hok)
 exact ⟨mA,⟨ob,n,ne⟩,r,q⟩
theorem Zdz {pins:List (Addr×Obj)} {s:Shared} {a:Addr} {oe:Obj} (I:Inv X pins σ H s) (h1:X.kw.hd=some (a,oe)):s.heap.get? a=some oe:=by
 have h1:(if X.calm then none else X.pn.head?)=some (a,oe):=h1
 have hcalm:X.calm=false:=by
  cases hc:X.calm with
  | false=>rfl
  | true=>rw [hc] at h1;cases h1
 have hpn:X.pn.head?=some (a,oe):=by rw [hcalm] at h1;exact h1
 have hmem:(a,oe)∈X.pn:=by
  cases hp:X.pn with
  | nil=>rw [hp] at hpn;cases hpn
  | cons q l=>rw [hp] at hpn;cases hpn;exact List.mem_cons_self
 exact (I.pin (a,oe) (List.mem_append_left _ hmem)).1
theorem Vk {l:List Str} {C f:Str} {ns:List Str} {xs:List D} {d':D} {m':Store} (e:Vj l C f ns xs m=some (d',m')):m'=m∧C∈l∧(ns.zip xs).lookup f=some d':=by
 unfold Vj at e
 split at e
 ·rename_i hm
  obtain ⟨y,e1,e2⟩:=Option.map_eq_some_iff.mp e
  cases e2
  exact ⟨rfl,hm,e1⟩
 ·cases e
theorem Zgs {lx l:List Str} {f:Str} {d d':D} {m':Store} (e:Vi lx l f d m=some (d',m')):m'=m:=by
 unfold Vi at e
 split at e
 ·exact (Vk e).1
 ·exact (Vk e).1
 ·exact (Vk e).1
 ·split at e
  ·exact (Vk e).1
  ·cases e
 ·cases e
theorem ZdA {pins:List (Addr×Obj)} {s:Shared} {a Ca:Addr} {o:Obj} {d:Option Addr} (I:Inv X pins σ H s) (h:H a=some (.frz o (exo a Ca d))):s.heap.get? a=some o∧o.cls = .ref Ca∧o.dict=d∧∃vs,o.data = .fields vs:=by
 obtain ⟨h1,⟨t1,h2⟩,_⟩:=(show ObjOk X.prog X.w H s.heap a (.frz o (exo a Ca d)) from I.hok a _ h)
 have e:=h1.symm.trans h2
 cases e
 exact ⟨h1,rfl,rfl,_,rfl⟩
/-- o.f -/
theorem Zgu {pins:List (Addr×Obj)} {s:Shared} {lx l:List Str} {f:Str} {d d':D} {v:V} {u:Value} {bb:Bool} {m':Store} {Q:VK} (hx:∀C∈lx,∃Ca,X.mg C=some (.ref Ca)∧Yy X.K Ca f) (hl:∀C∈l,∃Ca,X.mg C=some (.ref Ca)∧Yx X.K Ca f) (I:Inv X pins σ H s) (r:Q9 X.kw c m H) (hv:VD X.kw H c v d) (ru:RelV v u) (e:Vi lx l f d m=some (d',m'))
  (q:∀v',VD X.kw H c v' d'→Q v' H):wpAny (model X.prog X.w) X.A (getAttr u f bb) (EP X pins σ Q) X.xe s:=by
 have ins:∀{a Ca dx:Addr} {C:Str} {fs:List (Str×V)} {ns:List Str} {xs:List D},u = .ref a→X.mg C=some (.ref Ca)→Rd H a (.ins Ca dx fs)→fs.map (·.1)=ns→VDs X.kw H c (fs.map (·.2)) xs→Vj l C f ns xs m=some (d',m')→wpAny (model X.prog X.w) X.A (getAttr u f bb) (EP X pins σ Q) X.xe s:=fun {a Ca dx C fs ns xs} eu h1 hr hn hx e=>by
  obtain ⟨_,hm,e⟩:=Vk e
  obtain ⟨Cb,h2,T,hno⟩:=hl C hm
  have:=h1.symm.trans h2
  cases this
  subst eu
  obtain ⟨mA,O,rr,_⟩:=Zg5 I.hok hr
  obtain ⟨y,k1,k2⟩:=Zaa hx e
  rw [←ZbD hn] at k1
  obtain ⟨u',hu,ru'⟩:=RelO.some_of (v:=y) (o:=mA f) (by rw [←k1];exact rr f)
  exact get_map I.kIn O (T.cl.get f) T.cl.hd hno hu (handed_of ru') ⟨y,H,I.tok _,ru',q y k2⟩
 unfold Vi at e
 split at e
 ·obtain ⟨_,hm,k3⟩:=Vk e
  obtain ⟨Cb,k1,T,hno⟩:=hx _ hm
  unfold VD at hv
  obtain ⟨a,oe,Ca,dd,fs,h1,rfl,h3,h4,⟨vs,h5⟩,h6,h7⟩:=hv
  cases ru
  have:=h3.symm.trans k1
  cases this
  have ha:=Zdz I h1
  rcases h6 with ⟨e1,_,_⟩ | ⟨dx,rfl,hx,hn⟩
  ·rw [e1] at k3
   simp at k3
  ·obtain ⟨mA,hns,hr⟩:=(show ObjOk X.prog X.w H s.heap dx (.xd fs) from I.hok dx _ hx)
   obtain ⟨od,ho,hlk⟩:=lookIn_ns hns
   obtain ⟨y,y1,y2⟩:=Zaa h7 k3
   rw [←ZbD hn] at y1
   obtain ⟨u',hu,ru'⟩:=RelO.some_of (v:=y) (o:=mA f) (by rw [←y1];exact hr f)
   have J:PySem.W.InstAt s.heap a oe _ (some od):=⟨ha,h4.1,by unfold PySem.W.notCls;rw [h5] <;> rfl,by rw [h4.2];exact ho⟩
   exact HandSPX.exc_get I.kIn J T.xf.ga T.xf.gg T.xf.exC (PySem.W.findObj_own T.xf.hdC hno rfl (by rw [hlk,hu])) (handed_of ru') ⟨y,H,I.tok _,ru',q y y2⟩
 ·obtain ⟨_,hm,k3⟩:=Vk e
  obtain ⟨Cb,k1,T,hno⟩:=hx _ hm
  unfold VD at hv
  obtain ⟨a,oe,Ca,dd,fs,rfl,h3,h4,h6,h7⟩:=hv
  cases ru
  have:=h3.symm.trans k1
  cases this
  obtain ⟨ha,hc,hdd,vs,h5⟩:=ZdA I h4
  rcases h6 with ⟨e1,_,_⟩ | ⟨dx,rfl,hx,hn⟩
  ·rw [e1] at k3
   simp at k3
  ·obtain ⟨mA,hns,hr⟩:=(show ObjOk X.prog X.w H s.heap dx (.xd fs) from I.hok dx _ hx)
   obtain ⟨od,ho,hlk⟩:=lookIn_ns hns
   obtain ⟨y,y1,y2⟩:=Zaa h7 k3
   rw [←ZbD hn] at y1
   obtain ⟨u',hu,ru'⟩:=RelO.some_of (v:=y) (o:=mA f) (by rw [←y1];exact hr f)
   have J:PySem.W.InstAt s.heap a oe _ (some od):=⟨ha,hc,by unfold PySem.W.notCls;rw [h5] <;> rfl,by rw [hdd];exact ho⟩
   exact HandSPX.exc_get I.kIn J T.xf.ga T.xf.gg T.xf.exC (PySem.W.findObj_own T.xf.hdC hno rfl (by rw [hlk,hu])) (handed_of ru') ⟨y,H,I.tok _,ru',q y y2⟩
 ·unfold VD at hv
  obtain ⟨a,ob,Ca,dx,fs,rfl,h2,h3,h4,h5⟩:=hv
  cases ru
  exact ins rfl h2 (.inr ⟨ob,h3⟩) h4 h5 e
 ·rename_i i
  split at e
  ·rename_i C fs hm
   unfold VD at hv
   obtain ⟨a,ha,rfl⟩:=hv
   cases ru
   obtain ⟨Ca,dx,vs,g1,g2,g3,g4⟩:=r.at_ i a _ ha hm
   exact ins rfl g2 (.inl g1) g3 (VDs.mono (Ext.refl _) (VN _ _) _ g4.warm) e
  ·cases e
 ·cases e
def Zr (lx l:List Str) (f:Str) (fa:FE):FE:=fun ρ m=>(fa ρ m).bind fun d m1=>lift (Vi lx l f d m1)
theorem ZZ {lx l:List Str} {f:Str} (hx:∀C∈lx,∃Ca,X.mg C=some (.ref Ca)∧Yy X.K Ca f) (hl:∀C∈l,∃Ca,X.mg C=some (.ref Ca)∧Yx X.K Ca f) (ha:DE X W a fa) (hb:attributeBase a f X.env (eval a X.env)=eval a X.env:=by rfl):DE X W (.Attribute a f pos) (Zr lx l f fa):=fun c ρ m σ H Q r s w => .mk fun pins st I=>by
 refine attr_of hb (thn ((ha.HW (Q:=fun v H1=>∃c1 m1 d,Q9 X.kw c1 m1 H1∧VD X.kw H1 c1 v d∧XF X.kw c1 H1 (Vi lx l f d m1) Q) r s w (fun d m1 c1 v H1 r1 s1 g1 h1 w1=>⟨c1,m1,d,r1,h1,w1.o⟩)).go pins st I) ?_)
 rintro u s1 ⟨v,H1,I1,ru,c1,m1,d,r1,h1,w1⟩
 cases q:Vi lx l f d m1 with
 | none=>rw [q] at w1;exact w1.elim
 | some y =>
  obtain ⟨d',m'⟩:=y
  rw [q] at w1
  have e0:=Zgs q
  subst e0
  exact Zgu (bb:=true) (Q:=Q) hx hl I1 r1 h1 ru q fun v' hv'=>w1 c1 v' H1 (Gd.refl r1) hv'
def IsX (K:PySem.W.Frag) (Ca Cb:Addr) (b:Bool):Prop:=XcT K Ca∧PySem.W.kitOne K (.ref Ca) (.ref Cb)=some b
def Jq:D→Option Str
 | .exn C _ _=>some C
 | .exv C _ _=>some C
 | _=>none
theorem lookup_mem {l:List (Str×Bool)} {C:Str} {b:Bool} (h:l.lookup C=some b):(C,b)∈l:=by
 induction l with
 | nil=>cases h
 | cons q l ih =>
  obtain ⟨n,k⟩:=q
  simp only [List.lookup_cons] at h
  cases e:C == n with
  | true=>rw [e] at h;cases h;rw [eq_of_beq e];exact List.mem_cons_self
  | false=>rw [e] at h;exact List.mem_cons_of_mem _ (ih h)
/-- a def or a class as a value -/
def fnE (x:Str):FE:=fun _ m => .ok (.fn x) m
theorem ZK {x:Str} {fa:Addr} (hm:X.mg x=some (.ref fa)) (hg:Gl X x:=by rfl) (hd:(x == ("__debug__":Str))=false:=by decide):DE X W (.Name x pos) (fnE x):=fun c ρ m σ H Q rr s h =>
 Z9 (pe_glob hg hm (v := .ref fa) rfl hd) (h.now rr (by unfold VD;exact ⟨fa,hm,rfl⟩))
end
end L2.Dn
namespace L2.Dn
open PySem PySem.Spec PyProof.Rows L2
/-- what the __init__ of an exception class promises: its fields are its arguments -/
def spX (Ca:Addr) (ns:List Str):Sp:=fun vs H Q _=>∃a ws,vs = .ref a::ws∧ws.length=ns.length∧H a=some (exo a Ca none) ∧
 ∀d H',H d=none→d≠a→H' a=some (exo a Ca (some d))→H' d=some (exd d (ns.zip ws).reverse)→(∀b,b≠a→b≠d→H' b=H b)→Q .non H'
theorem Ye {Ca:Addr} {ns:List Str}:∀vs H Q E,spX Ca ns vs H Q E→vs.length=((Str.ofString "self")::ns).length:=by
 rintro vs H Q E ⟨a,ws,rfl,h,_⟩
 simp [h]
section
variable {X:Cx} {W:WX} {a b e o:Expr} {es rest:List Expr} {fa fb f fo:FE} {fl:FI} {pos pos' apos cpos p p1 p2:Pos} {c:Anc} {ρ:Rho} {m:Store} {σ:St} {H:Hp} {name x:Str} {ta:TA} {P Ca fI:Addr} {k:Nat} {fd:FuncData} {ns:List Str}
/-- P.__init__(self,..),P an own class over ValueError without an __init__ of its own -/
theorem ZW {pl:Sem Bool} (hg:Gl X x) (hm:X.mg x=some (.ref P)) (g1:PySem.W.specialIn X.K (.ref P) "__getattribute__"=some (some (.builtin "type.__getattribute__"))) (g2:PySem.W.readsIn X.K P (.type "type")=true) (g3:PySem.W.findCls X.K (.ref P) (.type "type") "__init__"=some (.val (.builtin "ValueError.__init__"))) (ha:PA X (e::es) ta)
  (hdb:(x == ("__debug__":Str))=false:=by decide)
  (hc:eval (.Call (.Attribute (.Name x p1) "__init__" p2) (e::es) [] pos) X.env=(do
   let ov ←eval (.Name x p1) X.env
   standAt p2.atName
   let (f,first) ←holding [ov] (getMethod ov "__init__" pl)
   callWith pos f first (backTo pos (starEach (e::es) X.env)) (backToKw pos (keywordEach [] X.env))):=by rfl)
  (he:starEach (e::es) X.env=(false,eval e X.env)::starEach es X.env:=by rfl) (hpl:(backTo pos (starEach es X.env)).any (·.1)=false:=by rfl) :
  PE X (.Call (.Attribute (.Name x p1) "__init__" p2) (e::es) [] pos) (tVeI X.K ta):=by
 refine ⟨fun pins s σ H Q I h=>PySem.W.methodCall_KW (ld_glob I hg hm ?_ hdb) hc⟩
 refine PySem.W.method_cls I.kIn g1 (PySem.W.cls_value I.kIn g2 g3 (by decide +kernel) ?_)
 show wpAny _ _ (callWith pos (Value.builtin "ValueError.__init__") [] (backTo pos (starEach (e::es) X.env)) []) _ _ _
 refine PyProof.Rows.callWith_method1 (thn (ha.run pos pins _ σ H _ (I.tok _) h) ?_) he hpl
 rintro us s1 ⟨vs,H1,I1,r1,a,C,ws,rfl,hl,T,ea,q⟩
 cases r1 with
 | @cons _ u0 _ ur ra rw' =>
  cases ra
  have hlen:ur.length≤sizeLine:=by
   rw [←Paired.length rw',sizeLine_eq]
   omega
  exact oinit_ok T I1 ea hlen fun s' J=>⟨.non,H1,J,rfl,q⟩
theorem Ze2 {α β:Type} {l:List α} {r:List β} (h:l.length=r.length):(l.zip r).map (·.1)=l:=List.map_fst_zip (by omega)
theorem Ze3 {α β:Type} {l:List α} {r:List β} (h:l.length=r.length):(l.zip r).map (·.2)=r:=List.map_snd_zip (by omega)
def Zfo (ρ:Rho):Bool:=ρ.all fun o=>match o with
 | some d=>nx d
 | none=>true
theorem Slo.kw {K K':KW} (hk:K'.K=K.K) (hw:K'.w=K.w) (hm:K'.mg=K.mg) {ρ:Rho} (s:Slo K H c ρ σ) (h:Zfo ρ=true):Slo K' H c ρ σ:=by
 refine ⟨s.len,fun i d e=>?_⟩
 obtain ⟨v,h1,h2⟩:=s.at_ i d e
 refine ⟨v,h1,VD.kw hk hw hm d h2 ?_⟩
 have:=List.all_eq_true.mp h _ (List.mem_of_getElem? e)
 exact this
theorem Q9.kw {K K':KW} (h:K'.cold=K.cold) {c:Anc} {m:Store} {H:Hp} (r:Q9 K c m H):Q9 K' c m H:=⟨r.len,r.inj,fun i a x h1 h2=>by rw [h];exact r.at_ i a x h1 h2⟩
theorem Gd.kw {K K':KW} (h:K'.cold=K.cold) {c c':Anc} {m':Store} {H H':Hp} (g:Gd K c c' m' H H'):Gd K' c c' m' H H':=⟨g.pre,g.ext,g.new,g.frame,g.rel.kw h⟩
variable {body suite:List Stmt} {b₀:Stmt} {np:Pos} {gb gs:FS} {n C:Str} {cv:Value} {l:List (Str×Bool)}
end
end L2.Dn
namespace L2.Dn
open PySem PySem.Spec PyProof.Rows L2
/-- an empty tuple that stands written -/
def qwV (K:PySem.W.Frag) (a:Addr):Prop:=∃(n:Nat) (sl:Array (Option Value)),K.lookup a=some ⟨.type "tuple",none,.seq #[] n,sl⟩
theorem qwV.vd {K:KW} {K0:PySem.W.Frag} {H:Hp} {c:Anc} {a:Addr} (h:qwV K0 a) (e:K.K=K0):VD K H c (.ref a) (.p (.tuple [])):=by
 obtain ⟨n,sl,hk⟩:=h
 subst e
 unfold VD
 exact .tup (.inr ⟨_,#[],n,hk,rfl,rfl,Nat.zero_le _,.nil⟩) .nil
end L2.Dn
namespace L2.Dn
open PySem PySem.Spec PyProof.Rows L2
theorem fcons {α:Type} {P:α→Prop} {a:α} {l:List α} (h:P a) (t:∀x∈l,P x):∀x∈a::l,P x:=fun x hx=>(List.mem_cons.mp hx).elim (fun e=>e ▸ h) (t x)
section
variable {X:Cx} {W:WX} {c:Anc} {m:Store} {σ:St} {H:Hp}
theorem IxR.alt {g h:D→D→Store→OD} (a:IxR X (rOf X.kw g)) (b:IxR X (rOf X.kw h)):IxR X (rOf X.kw (ZX g h)):=fun value slice pins s σ H x y v u Q I rx ry w hs =>
 (ZeA w).elim (fun w=>a value slice pins s σ H x y v u Q I rx ry w hs) (fun w=>b value slice pins s σ H x y v u Q I rx ry w hs)
def ixG:=ZX ixD ZbL
theorem Zu (hu:X.A.units+65 < cLine):IxR X (rOf X.kw ixG):=IxR.alt Zhg (Zhh hu)
def setG:WL:=fun o i d m=>match Y6 o i d m with
 | some m'=>some m'
 | none=>Vt o i d m
theorem ZaQ (hu:X.A.units+65 < cLine):PSet X (ZaO X.kw setG):=fun pins s σ H o i v ov iv u Q I ro ri rv ⟨c,m,m',do_,di,dd,r,h1,h2,h3,e,q⟩=>by
 unfold setG at e
 cases q1:Y6 do_ di dd m with
 | some m2 =>
  rw [q1] at e
  cases e
  exact ZiQ pins s σ H o i v ov iv u Q I ro ri rv ⟨c,m,_,do_,di,dd,r,h1,h2,h3,q1,q⟩
 | none =>
  rw [q1] at e
  exact set_dict hu pins s σ H o i v ov iv u Q I ro ri rv ⟨c,m,_,do_,di,dd,r,h1,h2,h3,e,q⟩
def inG:=ZX inD (ZbH false)
theorem Zif (hu:X.A.units+65 < cLine):OpR X (compareOp .In) (rOf X.kw inG):=OpR.alt (Zid hu) (Zie hu)
/-- xs*n,xs a list of the def's own -/
def ZbW (z:Md) (x y:D) (m:Store):OD:=match x,y with
 | .cell i,.p (.int n)=>match m.at_ i with
  | some (.lst xs)=>if -(2 ^ 63)≤n∧n < 2 ^ 63∧xs.length*n.toNat≤sizeLine then YW z (List.replicate n.toNat xs).flatten m else none
  | _=>none
 | _,_=>none
theorem VDs.flat {K:KW} {vs:List V} {ds:List D} (h:VDs K H c vs ds):∀n:Nat,VDs K H c (List.replicate n vs).flatten (List.replicate n ds).flatten
 | 0=>by simp [VDs]
 | n+1=>by
  rw [List.replicate_succ,List.replicate_succ,List.flatten_cons,List.flatten_cons]
  exact h.append (VDs.flat h n)
theorem Zim (z:Md):OpR X (binaryOp .Mult) (rOf X.kw (ZbW z)):=by
 refine OpR.by_ op_rep fun x y H Q w=>?_
 obtain ⟨c,m,dx,dy,r,h1,h2,w⟩:=w
 unfold ZbW at w
 split at w
 ·rename_i i n
  split at w
  ·rename_i xs hm
   split at w
   ·rename_i hn
    unfold VD at h1
    obtain ⟨a,ha,rfl⟩:=h1
    obtain ⟨vs,k1,k2⟩:=r.at_ i a _ ha hm
    have k3:=VDs.mono (Ext.refl _) (VN _ _) _ k2.warm
    exact ⟨a,n,vs,rfl,VD.int.mp h2,k1,hn.1,hn.2.1,by rw [k3.length];exact hn.2.2,ZaD r (k3.flat _) w⟩
   ·exact w.elim
  ·exact w.elim
 ·exact w.elim
def Z7 (z:Md):=ZX V1 (ZbW z)
theorem V3 (z:Md):OpR X (binaryOp .Mult) (rOf X.kw (Z7 z)):=OpR.alt Zek (Zim z)
def nst:Expr→Bool
 | .Starred ..=>false
 | _=>true
theorem Zjn {e:Expr} {es:List Expr} {env:Env} (h:nst e=true):starEach (e::es) env=(false,eval e env)::starEach es env:=by
 cases e <;> first | (exact Bool.noConfusion h) | (unfold starEach;rfl) | (rw [starEach];intro _ _ hh;exact Expr.noConfusion hh)
theorem Zd {e:Expr} {es:List Expr} {f:FE} {g:Rho→Store→Res (List D)} (ha:DE X W e f) (hr:DA X W es g) (hs:nst e=true:=by rfl):DA X W (e::es) (Za f g):=Zfu ha hr (Zjn hs)
end
end L2.Dn
namespace L2.Dn
open PySem PySem.Spec PyProof.Rows L2
end L2.Dn
namespace L2.Dn
open PySem PySem.Spec PyProof.Rows L2
end L2.Dn
namespace L2.Dn
open PySem PySem.Spec PyProof.Rows L2
end L2.Dn
namespace L2.Dn
open PySem PySem.Spec PyProof.Rows L2
mutual
theorem Rds.there {h:Heap}:∀{v:Value} {d:PyData},Rds h v d→∃as,Reads h v d as∧∀a∈as,∃o,h.get? a=some o
 | _,_,.none=>⟨_,.none,fun _ z=>nomatch z⟩
 | _,_,.bool b=>⟨_,.bool b,fun _ z=>nomatch z⟩
 | _,_,.int i t=>⟨_,.int i t,fun _ z=>nomatch z⟩
 | _,_,.str x t=>⟨_,.str x t,fun _ z=>nomatch z⟩
 | _,_,.list h1 h2 h3 h4=>by
  obtain ⟨as,r,q⟩:=MN.there h4
  refine ⟨_,.list h1 h2 h3 r,fun a ha=>?_⟩
  rcases List.mem_cons.mp ha with z | z
  ·rw [z];exact ⟨_,h1⟩
  ·exact q a z
 | _,_,.tuple h1 h2 h3 h4=>by
  obtain ⟨as,r,q⟩:=MN.there h4
  exact ⟨_,.tuple h1 h2 h3 r,q⟩
 | _,_,.dict _ h1 h2 h3 h4 h5=>by
  obtain ⟨as,r,q⟩:=MN.there h4
  obtain ⟨bs,r2,q2⟩:=MN.there h5
  refine ⟨_,.dict h1 h2 h3 r r2,fun a ha=>?_⟩
  rcases List.mem_append.mp ha with z | z
  ·rcases List.mem_cons.mp z with z | z
   ·rw [z];exact ⟨_,h1⟩
   ·exact q a z
  ·exact q2 a z
theorem MN.there {h:Heap}:∀{vs:List Value} {ds:List PyData},MN h vs ds→∃as,ReadsAll h vs ds as∧∀a∈as,∃o,h.get? a=some o
 | _,_,.nil=>⟨_,.nil,fun _ z=>nomatch z⟩
 | _,_,.cons r q=>by
  obtain ⟨as,x,hx⟩:=Rds.there r
  obtain ⟨bs,y,hy⟩:=MN.there q
  refine ⟨_,.cons x y,fun a ha=>?_⟩
  rcases List.mem_append.mp ha with z | z
  ·exact hx a z
  ·exact hy a z
end
end L2.Dn
namespace L2.Dn
open PySem PySem.Spec PyProof.Rows L2
end L2.Dn
namespace L2.Dn
open PySem PySem.Spec PyProof.Rows L2
end L2.Dn
namespace L2.Dn
open PySem PySem.Spec PyProof.Rows L2
end L2.Dn
namespace L2.Dn
open PySem PySem.Spec PyProof.Rows L2
end L2.Dn
namespace L2.Dn
open PySem PySem.Spec PyProof.Rows L2
section
variable {P:Program} {w:World} {A:Around} {E:Value→Shared→Prop} {s:Shared} {a b:Addr} {xs ys:List Ent}
/-- what the walk over the one dict's entries finds in the other one -/
inductive Hit (P:Program) (w:World) (A:Around) (s:Shared) (ys:List Ent):List Ent→Bool→Prop
 | nil:Hit P w A s ys [] true
 | miss {x:Ent} {r:List Ent}:lkE ys x.1=none→Hit P w A s ys (x::r) false
 | hit {x:Ent} {y:Value} {r:List Ent} {e k:Bool}:lkE ys x.1=some y→SeqAt.EqP P w A s x.2.2 y e→Hit P w A s ys r k→Hit P w A s ys (x::r) (e && k)
theorem Hit.inv {x:Ent} {r:List Ent} {k:Bool} (h:Hit P w A s ys (x::r) k):(lkE ys x.1=none∧k=false)∨∃y e k',lkE ys x.1=some y∧SeqAt.EqP P w A s x.2.2 y e∧Hit P w A s ys r k'∧k=(e && k'):=by
 cases h with
 | miss h=>exact .inl ⟨h,rfl⟩
 | hit h q t=>exact .inr ⟨_,_,_,h,q,t,rfl⟩
theorem ZiM {nm:String} {r:Bool} {Q:Bool→Shared→Prop} (ha:(a == sysModules)=false) (hb:(b == sysModules)=false) (ga:SQ w s.heap a xs) (gb:SQ w s.heap b ys) (hu:A.units+8 < cLine)
  (hits:xs.length=ys.length→Hit P w A s ys xs r) (h:Q (xs.length == ys.length && r) s):wpAny (model P w) A (Builtin.Dict.samePairs nm a b) Q E s:=by
 obtain ⟨oa,ea,na,a1,_,a2,a3,a4,_⟩:=ga
 obtain ⟨ob,eb,nb,b1,_,b2,b3,b4,b5⟩:=gb
 have la:=Kz a3
 have lb:=Kz b3
 rw [←la,←lb] at h
 unfold Builtin.Dict.samePairs Builtin.Dict.showsAll
 rw [if_neg (by rw [ha];exact Bool.false_ne_true),if_neg (by rw [hb];exact Bool.false_ne_true)]
 refine wpAny_bind (wpAny_pure (wpAny_bind (wpAny_pure (wpAny_bind (wpAny_dictEntries a1 a2 ?_)))))
 dsimp only
 refine wpAny_bind (wpAny_dictEntries b1 b2 ?_)
 by_cases hz:ea.size=eb.size
 ·have h':Q r s:=by simpa [hz] using h
  have ht:=hits (by rw [←la,←lb];exact hz)
  rw [if_neg (by rw [hz];simp)]
  refine wpAny_bind (wpAny_dictEpoch a1 a2 (wpAny_bind ?_))
  rw [Std.Legacy.Range.forIn_eq_forIn_range'];simp only [Std.Legacy.Range.size,Nat.sub_zero,Nat.add_sub_cancel,Nat.div_one]
  refine wpAny_forIn_list _ (fun rest q s'=>s'=s∧q=(none,())∧∃i,rest=List.range' i (ea.size - i)∧i≤ea.size∧Hit P w A s ys (xs.drop i) r) _ ?_ ?_ _ _ ⟨rfl,rfl,0,by simp,Nat.zero_le _,ht⟩
  ·rintro j rest q s' ⟨rfl,rfl,i,hr,hi,hp⟩
   have hlt:i < ea.size:=by
    rcases Nat.lt_or_ge i ea.size with k | k
    ·exact k
    ·rw [Nat.sub_eq_zero_of_le k] at hr;cases hr
   have e0:ea.size - i=ea.size - (i+1)+1:=by omega
   rw [e0,List.range'_succ] at hr
   obtain ⟨rfl,hrest⟩:j=i∧rest=List.range' (i+1) (ea.size - (i+1)):=by injection hr with p q;exact ⟨p,q⟩
   have hlx:j < xs.length:=by rw [←la];exact hlt
   have hdr:xs.drop j=xs[j]::xs.drop (j+1):=List.drop_eq_getElem_cons hlx
   rw [hdr] at hp
   have he:ea[j]?=some (Yq w xs[j]):=by rw [Ve a3 j,List.getElem?_eq_getElem hlx];rfl
   refine wpAny_bind (wpAny_dictEntries a1 a2 ?_)
   rw [he]
   generalize hx:xs[j]=x at hp he
   have hk:IsK s'.heap x.1 x.2.1:=by rw [←hx];exact a4 _ (List.getElem_mem hlx)
   show wpAny _ _ (holding [x.2.1,x.2.2] _ >>= _) _ _ _
   refine wpAny_bind (wpAny_holding (wpAny_bind (find_key hu hk b1 b2 b3 b4 b5 (fun no=>?_) fun t p ht=>?_)))
   ·rcases hp.inv with ⟨_,er⟩ | ⟨y,_,_,hy,_⟩
    ·rw [er] at h'
     refine wpAny_pure ?_
     show wpAny _ _ (if (!false)=true then _ else _) _ _ _
     rw [if_pos (by rfl)];exact wpAny_pure (wpAny_pure h')
    ·rw [Zd1 no] at hy;cases hy
   ·rcases hp.inv with ⟨hy,_⟩ | ⟨y,e,k,hy,he,hrr,er⟩
    ·rw [K9 b5 ht] at hy;cases hy
    ·have ey:=(K9 b5 ht).symm.trans hy
     cases ey
     refine wpAny_bind (wpAny_dictEntries b1 b2 ?_)
     have e2:eb[t]?=some (Yq w (x.1,p)):=by rw [Ve b3 t,ht];rfl
     rw [e2]
     refine wpAny_holding (he _ _ ?_)
     cases e with
     | false =>
      rw [er,Bool.false_and] at h'
      show wpAny _ _ (if (!false)=true then _ else _) _ _ _
      rw [if_pos (by rfl)];exact wpAny_pure (wpAny_pure h')
     | true =>
      rw [Bool.true_and] at er
      rw [←er] at hrr
      show wpAny _ _ (if (!true)=true then _ else _) _ _ _
      rw [if_neg (by decide)]
      refine wpAny_bind (wpAny_dictEpoch a1 a2 ?_)
      rw [if_neg (by simp)];exact wpAny_pure ⟨rfl,rfl,j+1,hrest,hlt,hrr⟩
  ·rintro q s' ⟨rfl,rfl,i,hr,hi,hp⟩
   have e0:i=ea.size:=by
    rcases Nat.lt_or_ge i ea.size with k | k
    ·have e0:ea.size - i=ea.size - (i+1)+1:=by omega
     rw [e0,List.range'_succ] at hr;cases hr
    ·omega
   refine wpAny_pure ?_
   rw [e0,la,List.drop_length] at hp
   cases hp;exact h'
 ·rw [if_pos (by simpa using hz)]
  have hf:(ea.size == eb.size)=false:=by simpa using hz
  rw [hf,Bool.false_and] at h
  exact wpAny_bind (wpAny_rule (wpAny_pure h))
theorem Zgb {r:Bool} {Q:Value→Shared→Prop} (ha:(a == sysModules)=false) (hb:(b == sysModules)=false) (ga:SQ w s.heap a xs) (gb:SQ w s.heap b ys) (hu:A.units+9 < cLine)
  (hits:xs.length=ys.length→Hit P w A.in1 s ys xs r) (h:Q (.bool (xs.length == ys.length && r)) s):wpAny (model P w) A (compareOp .Eq (.ref a) (.ref b)) Q E s:=by
 refine wpAny_richCompare_same_room (op := .Eq) ga.ty gb.ty PySem.F.slot_dict_eq (wpAny_call_entry PySem.F.slot_dict_eq ga.ty PySem.F.entry_dict_eq ?_ (PySem.F.args_dict_eq_2 _ _)) (by omega)
 show wpAny _ _ (Builtin.Dict.dictSlotArgs "__eq__" ⟨[.ref a,.ref b],[]⟩ >>= _) _ _ s
 unfold Builtin.Dict.dictSlotArgs;refine wpAny_bind (wpAny_bind (wpAny_notOrdered_dict ga.ty ?_))
 show wpAny _ _ (pure (Value.ref a,Value.ref b)) _ _ s
 refine wpAny_pure (wpAny_bind (wpAny_isInstance (T:="dict") gb.ty PySem.F.sub_dict_dict ?_))
 simp only [Bool.not_true,Bool.false_eq_true,if_false];refine wpAny_bind (wpAny_pure (wpAny_bind (wpAny_pure (wpAny_bind (ZiM ha hb ga gb (by show A.units+1+8 < _;omega) hits (wpAny_pure ⟨_,rfl,(by intro x;cases x),?_⟩))))))
 simpa using h
end
section
variable {X:Cx} {pins:List (Addr×Obj)} {σ:St} {H:Hp} {s:Shared} {c:Anc} {m:Store}
theorem Paired.len2 {α β:Type} {R:α→β→Prop}:∀{xs:List α} {ys:List β},Paired R xs ys→xs.length=ys.length
 | _,_,.nil=>rfl
 | _,_,.cons _ t=>by rw [List.length_cons,List.length_cons,Paired.len2 t]
end
end L2.Dn
namespace L2.Dn
open PySem PySem.Spec PyProof.Rows L2
section
variable {X:Cx} {l:List (Str×Den)}
theorem u66 {k:Nat} {A:Around} (hr:Room k A):A.units+66 < cLine:=by have:=hr.un;omega
end
end L2.Dn
namespace L2.Dn
open PySem PySem.Spec PyProof.Rows L2
end L2.Dn
namespace L2.Dn
open PySem PySem.Spec PyProof.Rows L2
end L2.Dn
namespace L2.Dn
open PySem PySem.Spec PyProof.Rows L2
end L2.Dn
namespace L2.Dn
open PySem PySem.Spec PyProof.Rows L2
def YF:L2.Key→NestedKey
 | .inl i => .num i
 | .inr x => .text x
theorem Zb1:∀{a b:L2.Key},YF a=YF b→a=b
 | .inl i,.inl j,h=>by cases h;rfl
 | .inr x,.inr y,h=>by cases h;rfl
 | .inl i,.inr y,h=>by cases h
 | .inr x,.inl j,h=>by cases h
theorem ZbO (k:L2.Key):nk (Vm k)=some (YF k):=by cases k <;> rfl
/-- d[k]=v,told -/
def Zew (kvs:List (PyData×D)) (k:L2.Key) (d:D):List (PyData×D):=putD kvs (Vm k) (YF k) d
def Jz (kvs:List (L2.Key×V)):List (NestedKey×V×V):=kvs.map fun q=>(YF q.1,kV q.1,q.2)
/-- the told dict and its entries in the layer -/
structure KvR (K:KW) (H:Hp) (c:Anc) (kvs:List (L2.Key×V)) (ds:List (PyData×D)):Prop where
 key:ds.map (·.1)=kvs.map fun q=>Vm q.1
 nd:(kvs.map (·.1)).Nodup
 vd:VDs K H c (kvs.map (·.2)) (ds.map (·.2))
section
variable {K:KW} {H H':Hp} {c c':Anc} {kvs:List (L2.Key×V)} {ds:List (PyData×D)}
theorem KvR.nil:KvR K H c [] []:=⟨rfl,List.nodup_nil,by unfold VDs;rfl⟩
theorem KvR.mono (r:KvR K H c kvs ds) (e:Ext H H') (p:Pre c c'):KvR K H' c' kvs ds:=⟨r.key,r.nd,VDs.mono e p _ r.vd⟩
theorem ZbN:∀kvs:List (L2.Key×V),RP K H (kvs.map fun q=>kV q.1) (kvs.map fun q=>Vm q.1)
 | [] => .nil
 | (.inl i,v)::r => .cons (.int i) (ZbN r)
 | (.inr x,v)::r => .cons (.str x) (ZbN r)
theorem KvR.dct (r:KvR K H c kvs ds):qaF K H c (Jz kvs) ds:=by
 have e1:(Jz kvs).map (·.1)=kvs.map fun q=>YF q.1:=by simp [Jz,Function.comp_def]
 have e2:(Jz kvs).map (·.2.1)=kvs.map fun q=>kV q.1:=by simp [Jz,Function.comp_def]
 have e3:(Jz kvs).map (·.2.2)=kvs.map (·.2):=by simp [Jz,Function.comp_def]
 refine ⟨?_,?_,?_,?_,?_⟩
 ·have:ds.map (fun q=>nk q.1)=(ds.map (·.1)).map nk:=by simp [Function.comp_def]
  rw [this,r.key]
  simp [Jz,Function.comp_def,ZbO]
 ·intro e he
  obtain ⟨q,_,rfl⟩:=List.mem_map.mp he
  rcases q.1 with i | x <;> exact Nat.zero_le _
 ·rw [e1]
  have:kvs.map (fun q=>YF q.1)=(kvs.map (·.1)).map YF:=by simp [Function.comp_def]
  rw [this]
  exact List.Pairwise.map _ (fun a b h z=>h (Zb1 z)) r.nd
 ·rw [e2,r.key]
  exact ZbN kvs
 ·rw [e3]
  exact r.vd
theorem KvR.len (r:KvR K H c kvs ds):kvs.length=ds.length:=by
 have:=r.vd.length
 simpa using this
theorem ZdS (r:KvR K H c kvs ds) (k:L2.Key):(kvs.any fun q=>decide (q.1=k))=true↔some (YF k)∈ds.map (fun q=>nk q.1):=by
 have e:ds.map (fun q=>nk q.1)=kvs.map fun q=>some (YF q.1):=by
  have:ds.map (fun q=>nk q.1)=(ds.map (·.1)).map nk:=by simp [Function.comp_def]
  rw [this,r.key]
  simp [Function.comp_def,ZbO]
 rw [e]
 constructor
 ·intro h
  obtain ⟨q,hq,hk⟩:=List.any_eq_true.mp h
  exact List.mem_map.mpr ⟨q,hq,by rw [of_decide_eq_true hk]⟩
 ·intro h
  obtain ⟨q,hq,hk⟩:=List.mem_map.mp h
  exact List.any_eq_true.mpr ⟨q,hq,decide_eq_true (Zb1 (Option.some.inj hk))⟩
theorem ZiB {k:L2.Key} {v:V}:(kvs.map fun kv=>if kv.1=k then (kv.1,v) else kv).map (·.1)=kvs.map (·.1):=by
 rw [List.map_map]
 apply List.map_congr_left
 intro q _
 simp only [Function.comp]
 split <;> rfl
theorem Zex {k:L2.Key} {v:V} {d:D} (hv:VD K H c v d):∀{kvs:List (L2.Key×V)} {ds:List (PyData×D)},ds.map (·.1)=kvs.map (fun q=>Vm q.1)→VDs K H c (kvs.map (·.2)) (ds.map (·.2)) →
  VDs K H c ((kvs.map fun kv=>if kv.1=k then (kv.1,v) else kv).map (·.2)) ((ds.map fun q=>if nk q.1=some (YF k) then (q.1,d) else q).map (·.2))
 | [],[],_,h=>h
 | [],_::_,e,_=>by simp at e
 | _::_,[],e,_=>by simp at e
 | q::kvs,y::ds,e,h=>by
  simp only [List.map_cons,List.cons.injEq] at e
  simp only [List.map_cons] at h ⊢
  unfold VDs at h
  obtain ⟨v1,t,e1,h1,h2⟩:=h
  cases e1
  unfold VDs
  refine ⟨_,_,rfl,?_,Zex hv e.2 h2⟩
  have e3:nk y.1=some (YF q.1):=by rw [e.1,ZbO]
  by_cases hk:q.1=k
  ·rw [if_pos hk,if_pos (by rw [e3,hk])]
   exact hv
  ·rw [if_neg hk,if_neg (fun z=>hk (Zb1 (Option.some.inj (e3.symm.trans z))))]
   exact h1
theorem KvR.put (r:KvR K H c kvs ds) {k:L2.Key} {v:V} {d:D} (hv:VD K H c v d):KvR K H c (putK kvs k v) (Zew ds k d):=by
 unfold putK Zew putD
 by_cases hk:(kvs.any fun kv=>decide (kv.1=k))=true
 ·rw [if_pos hk,if_pos (by simpa using (ZdS r k).mp hk)]
  refine ⟨?_,by rw [ZiB];exact r.nd,Zex hv r.key r.vd⟩
  have e1:(ds.map fun q=>if nk q.1=some (YF k) then (q.1,d) else q).map (·.1)=ds.map (·.1):=by
   rw [List.map_map]
   apply List.map_congr_left
   intro q _
   simp only [Function.comp]
   split <;> rfl
  have e2:((kvs.map fun kv=>if kv.1=k then (kv.1,v) else kv).map fun q=>Vm q.1)=kvs.map fun q=>Vm q.1:=by
   rw [List.map_map]
   apply List.map_congr_left
   intro q _
   simp only [Function.comp]
   split <;> rfl
  rw [e1,e2,r.key]
 ·rw [if_neg hk,if_neg (fun z=>hk ((ZdS r k).mpr (by simpa using z)))]
  refine ⟨by rw [List.map_append,List.map_append,r.key];rfl,?_,?_⟩
  ·rw [List.map_append,List.nodup_append]
   refine ⟨r.nd,by simp,fun a ha b hb e=>?_⟩
   have e4:b=k:=by simpa using hb
   apply hk
   obtain ⟨q,hq,e5⟩:=List.mem_map.mp ha
   exact List.any_eq_true.mpr ⟨q,hq,decide_eq_true (by rw [e5,e,e4])⟩
  ·rw [List.map_append,List.map_append]
   exact r.vd.append (VDs.one hv)
end
end L2.Dn
namespace L2.Dn
open PySem PySem.Spec PyProof.Rows L2
end L2.Dn
namespace L2.Dn
open PySem PySem.Spec PyProof.Rows L2
def Ze1:List D→List D→List D
 | x::xs,y::ys=>Yj [x,y]::Ze1 xs ys
 | _,_=>[]
end L2.Dn
namespace L2.Dn
open PySem PySem.Spec PyProof.Rows L2
section
variable {X:Cx}
theorem Zis:OpR X (binaryOp .Mult) (fun x y H Q=>∃l k xs,x = .ref l∧y = .int k∧RdL X.K H l xs ∧ -(2 ^ 63)≤k∧k < 2 ^ 63∧xs.length*k.toNat≤sizeLine∧∀p,H p=none→Q (.ref p) (upd H p (.lst (List.replicate k.toNat xs).flatten))):=by
 intro pins s σ H x y v u Q I rx ry h
 obtain ⟨l,k,xs,rfl,rfl,hA,h1,h2,hz,q⟩:=h
 cases rx
 obtain ⟨t,rfl⟩:=ry
 obtain ⟨_,its,n,r,e⟩:=hA.obj I
 have hl:=r.length
 have h3:its.toArray.size*k.toNat≤sizeLine:=by rw [List.size_toArray];rw [hl] at hz;exact hz
 have h4:¬its.toArray.size*k.toNat > (2 ^ 63 - 1) / 8:=by have:(sizeLine:Nat)≤(2 ^ 63 - 1) / 8:=(by decide);omega
 have h5:¬(!Builtin.List.listFitsIndex k)=true:=by rw [fitsIndex_both h1 h2];exact Bool.false_ne_true
 have h6:¬Builtin.List.listTooLong (its.toArray.size*k.toNat)=true:=by rw [notLongL h3];exact Bool.false_ne_true
 have h7:List.foldl (fun x1 x2=>x1++x2) #[] (List.replicate (if its.toArray.isEmpty=true then 0 else k.toNat) its.toArray)=(List.replicate k.toNat its).flatten.toArray:=by
  have f0:∀m:Nat,List.foldl (fun x1 x2=>x1++x2) #[] (List.replicate m its.toArray)=(List.replicate m its).flatten.toArray:=fun m=>by have:=foldl_rep its m [];rw [List.nil_append] at this;exact this
  rw [f0];cases its with | nil=>simp | cons a r'=>rw [if_neg (by simp)]
 refine wpAny_binaryOp_repeat_ref (T:="list") (U:="int") (by decide) ⟨_,e,rfl⟩ (fun s'=>typeIs_int s' k t) noFill_list_mul F.fills_int_mul F.slot_int_rmul repeat_list F.slot_int_index.lookup (call_meets F.slot_int_rmul (typeIs_int s k t) F.entry_int_rmul (F.args_int_rmul_2 _ _) (int___rmul___int_list k t l its.toArray n) ⟨e,rfl,⟨_,e,rfl⟩,call_meets F.slot_list_mul ⟨_,e,rfl⟩ F.entry_list_mul (F.args_list_mul_2 _ _) (AutoListH.list___mul___list_int_3 l its.toArray n k t h5 h4 h6) ⟨e,?_⟩⟩)
 rw [h7]
 exact ⟨.ref _,_,I.lnew (t':=s.toks) (r.rep k.toNat) (by rw [PyProof.Rows.lm_len_rep_flat,Nat.mul_comm];exact hz),rfl,q _ I.fresh⟩
def Wv (z:Md) (x y:D) (m:Store):OD:=match Ym x m,y with
 | some xs,.p (.int n)=>if -(2 ^ 63)≤n∧n < 2 ^ 63∧xs.length*n.toNat≤sizeLine then YW z (List.replicate n.toNat xs).flatten m else none
 | _,_=>none
theorem Zik (z:Md):OpR X (binaryOp .Mult) (rOf X.kw (Wv z)):=by
 refine OpR.by_ Zis fun x y H Q w=>?_
 obtain ⟨c,m,dx,dy,r,h1,h2,w⟩:=w
 unfold Wv at w
 split at w
 ·rename_i xs n hx
  split at w
  ·rename_i hn
   obtain ⟨a,vs,rfl,k1,k3⟩:=YS r h1 hx
   exact ⟨a,n,vs,rfl,VD.int.mp h2,k1,hn.1,hn.2.1,by rw [k3.length];exact hn.2.2,ZaD r (k3.flat _) w⟩
  ·exact w.elim
 ·exact w.elim
def Vo (z:Md):=ZX V1 (Wv z)
theorem Zel (z:Md):OpR X (binaryOp .Mult) (rOf X.kw (Vo z)):=OpR.alt Zek (Zik z)
end
end L2.Dn
namespace L2.Dn
open PySem PySem.Spec PyProof.Rows L2
def ItW (K:KW) (c:Anc) (H:Hp) (J:It) (ds:List D) (T:Store→Prop):Prop:=∀(c':Anc) (m':Store) (H':Hp),Pre c c'→Ext H H'→Q9 K c' m' H'→T m'→∀i:Nat,
 (∀d,ds[i]?=some d→J.go i H'∧∀x H'',J.yld i H' x H''→Gd K c' c' m' H' H''∧(∀b o,H' b=some o→H'' b=some o)∧VD K H'' c' x d)∧(ds.length≤i→J.stop i H')
theorem ItD.w {K:KW} {c:Anc} {H:Hp} {J:It} {ds:List D} {T:Store→Prop} (h:ItD K c H J ds):ItW K c H J ds T:=fun c' m' H' p ex r _ i=>h c' m' H' p ex r i
abbrev FW:=Rho→Store→Res (List D×(Store→Prop))
def Vx (X:Cx) (W:WX) (c:Anc) (H:Hp) (σ:St) (r:Res (List D×(Store→Prop))) (R:It→Hp→Prop):Prop:=match r with
 | .ok q m'=>∀c' J H',Gd X.kw c c' m' H H'→ItW X.kw c' H' J q.1 q.2→R J H'
 | .exc x m'=>∀c' cls dd H',Gd X.kw c c' m' H H'→qrz X.kw H' c' x cls dd→W cls dd σ H'
 | .stuck=>False
def DWk (X:Cx) (W:WX) (tg iter:Expr) (fi:FW):Prop:=∀(c:Anc) (ρ:Rho) (m:Store) (σ:St) (H:Hp) (R:It→Hp→Prop),Q9 X.kw c m H→Slo X.kw H c ρ σ→Vx X W c H σ (fi ρ m) R→WI X tg iter σ H R
def qt9 (K:KW) (c:Anc) (H:Hp) (a:Addr) (ds:List D) (T:Store→Prop):Prop:=∀(c':Anc) (m':Store) (H':Hp),Pre c c'→Ext H H'→Q9 K c' m' H'→T m'→∃vs,SqL K.K H' a vs∧VDs K H' c' vs ds
def Y5 (d:D) (m:Store):Option (List D×(Store→Prop)):=match d with
 | .p (.list ds)=>some (ds.map D.p,fun _=>True)
 | .lst xs=>some (xs,fun _=>True)
 | .cell i=>match m.at_ i with
  | some (.lst xs)=>some (xs,fun m'=>m'.at_ i=some (.lst xs))
  | _=>none
 | _=>none
section
variable {K:KW} {c:Anc} {m:Store} {H:Hp} {v:V} {d:D} {ds es:List D} {T T':Store→Prop} {a b:Addr}
theorem qt9.fz {vs:List V} (f:FzL K H a vs) (h:VDs K H c vs ds):qt9 K c H a ds T:=fun c' m' H' p ex r _=>⟨vs,(f.ext ex).sq,VDs.mono ex p _ h⟩
theorem qt9.li {i:Ix} (h:c.at_ i=some a):qt9 K c H a ds (fun m'=>m'.at_ i=some (.lst ds)):=fun c' m' H' p ex r t=>by
 obtain ⟨xs,e,hv⟩:=r.at_ i a _ (ZaK p h) t
 exact ⟨xs,.inl (.inl e),VDs.mono (Ext.refl _) (VN _ _) _ hv.warm⟩
theorem qt9.mono {c':Anc} {m':Store} {H':Hp} (h:qt9 K c H a ds T) (p:Pre c c') (ex:Ext H H'):qt9 K c' H' a ds T:=fun c2 m2 H2 p2 ex2 r t=>h c2 m2 H2 (p.trans p2) (ex.trans ex2) r t
theorem ZeJ (r:Q9 K c m H) (h:VD K H c v d) (e:Y5 d m=some (ds,T)):∃a vs,v = .ref a∧qt9 K c H a ds T∧SqL K.K H a vs∧T m:=by
 cases d with
 | p d =>
  cases d with
  | list ds =>
   cases e
   unfold VD at h
   cases h with
   | lst f q=>exact ⟨_,_,rfl,.fz f (VDs.ofp q),f.sq,trivial⟩
  | _=>cases e
 | lst xs =>
  cases e
  unfold VD at h
  obtain ⟨a,vs,rfl,f,q⟩:=h
  exact ⟨a,vs,rfl,.fz f q,f.sq,trivial⟩
 | cell i =>
  have e:(match m.at_ i with
   | some (.lst xs)=>some (xs,fun m'=>Two.at_ m' i=some (Cell.lst xs))
   | _=>none)=some (ds,T):=e
  cases hm:m.at_ i with
  | none=>rw [hm] at e;cases e
  | some x =>
   rw [hm] at e
   cases x with
   | lst xs =>
    cases e
    unfold VD at h
    obtain ⟨a,h1,rfl⟩:=h
    obtain ⟨vs,q,_⟩:=r.at_ i a _ h1 hm
    exact ⟨a,vs,rfl,.li h1,.inl (.inl q),hm⟩
   | _=>cases e
 | _=>cases e
theorem Zhd (h:qt9 K c H a ds T):ItW K c H (Itl K a) ds T:=fun c' m' H' p ex r t i=>by
 obtain ⟨vs,f,hv'⟩:=h c' m' H' p ex r t
 refine ⟨fun d e=>?_,fun hl=>⟨vs,f,by rw [hv'.length];exact hl⟩⟩
 obtain ⟨v,h1,h2⟩:=hv'.get e
 refine ⟨⟨vs,v,f,h1⟩,fun x H'' y=>?_⟩
 obtain ⟨e1,y⟩:=y
 subst e1
 exact ⟨Gd.refl r,fun _ _ e=>e,hv'.at_ e (y vs f)⟩
theorem Zhc (h:qt9 K c H a ds T):ItW K c H (Ite K a) (pairs 0 ds) T:=fun c' m' H' p ex r t i=>by
 obtain ⟨vs,f,hv'⟩:=h c' m' H' p ex r t
 refine ⟨fun d e=>?_,fun hl=>⟨vs,f,by rw [hv'.length];rw [Zeo] at hl;exact hl⟩⟩
 obtain ⟨d0,h0,e0⟩:=Zca ds 0 i d e
 obtain ⟨v,h1,h2⟩:=hv'.get h0
 refine ⟨⟨vs,v,f,h1⟩,fun x H'' y=>?_⟩
 obtain ⟨T,x0,e1,nT,e2,y⟩:=y
 have y0:=y vs f
 rw [h1] at y0
 cases y0
 subst e1 e2
 have g:Gd K c' c' m' H' (upd H' T (.tup [.int (i:Nat),v])):=r.lay nT
 refine ⟨g,fun b o e=>by rw [upd_ne (ne_of_none e nT)];exact e,?_⟩
 rw [e0]
 refine VR (vs:=[.int (i:Nat),v]) ?_ (SqT.of upd_same)
 unfold VDs
 refine ⟨_,_,rfl,VD.int.mpr (by simp),?_⟩
 exact VDs.one (g.vd h2)
end
def qkt (f:FE):FW:=fun ρ m=>(f ρ m).bind fun d m1=>match Y5 d m1 with
 | some q => .ok q m1
 | none=>match KY d with
  | some ds => .ok (ds,fun _=>True) m1
  | none => .stuck
def qpp (fl:FI):FW:=fun ρ m=>(fl ρ m).bind fun ds m1=>match ds with
 | [d]=>match Y5 d m1 with
  | some q => .ok (pairs 0 q.1,q.2) m1
  | none => .stuck
 | _ => .stuck
def qwU (fl:FI):FW:=fun ρ m=>(fl ρ m).bind fun ds m1=>match ds with
 | [d,e]=>match Y5 d m1,Y5 e m1 with
  | some q,some p => .ok (Ze1 q.1 p.1,fun m=>q.2 m∧p.2 m) m1
  | _,_ => .stuck
 | _ => .stuck
def qrS (fi:FI):FW:=fun ρ m=>(fi ρ m).bind fun ds m1 => .ok (ds,fun _=>True) m1
section
variable {X:Cx} {W:WX} {a b e tg iter:Expr} {es:List Expr} {fa fb f:FE} {fl fi:FI} {pos tpos p:Pos} {c c':Anc} {ρ:Rho} {m m':Store} {σ:St} {H H':Hp}
theorem _root_.L2.Dn.DA.qwB {fl:Rho→Store→Res (List D)} {k:List D→Store→Res (List D×(Store→Prop))} {Q:List V→Hp→Prop} {R:It→Hp→Prop} (h:DA X W es fl) (r:Q9 X.kw c m H) (s:Slo X.kw H c ρ σ) (hb:Vx X W c H σ ((fl ρ m).bind k) R)
  (q:∀d m1 c1 v H1,Q9 X.kw c1 m1 H1→Slo X.kw H1 c1 ρ σ→Gd X.kw c c1 m1 H H1→VDs X.kw H1 c1 v d→Vx X W c H σ (k d m1) R→Q v H1):WA X es σ H Q:=by
 refine h c ρ m σ H Q r s ?_
 cases e:fl ρ m with
 | ok d m1 =>
  rw [e] at hb
  exact fun c1 v H1 g hv=>q d m1 c1 v H1 g.rel (g.slots s) g hv hb
 | exc x m1=>rw [e] at hb;exact hb
 | stuck=>rw [e] at hb;exact hb
theorem Ky (h:DI X W tg iter fi):DWk X W tg iter (qrS fi):=fun c ρ m σ H R r s w=>by
 refine h c ρ m σ H R r s ?_
 unfold qrS at w
 cases q:fi ρ m with
 | ok ds m1=>rw [q] at w;exact fun c' J H' g i=>w c' J H' g i.w
 | exc x m1=>rw [q] at w;exact w
 | stuck=>rw [q] at w;exact w
theorem Zdp (h:DE X W e f):DWk X W tg e (qkt f):=fun c ρ m σ H R r s w=>by
 unfold qkt at w
 cases q:f ρ m with
 | stuck=>rw [q] at w;exact w.elim
 | exc x m1 =>
  rw [q] at w
  exact YK (pi_list Zz) (h c ρ m σ H _ r s (by rw [q];exact w))
 | ok d m1 =>
  rw [q] at w
  dsimp only [Res.bind] at w
  cases q2:Y5 d m1 with
  | some p =>
   obtain ⟨ds,T⟩:=p
   rw [q2] at w
   refine YK (pi_list Zz) (h c ρ m σ H _ r s ?_)
   rw [q]
   intro c1 v H1 g hv
   obtain ⟨a,vs,rfl,k1,k2,_⟩:=ZeJ g.rel hv q2
   exact ⟨a,rfl,⟨vs,k2⟩,w c1 _ H1 g (Zhd k1)⟩
  | none =>
   rw [q2] at w
   refine Zdl h c ρ m σ H R r s ?_
   unfold Jh
   rw [q]
   dsimp only [Res.bind] at w ⊢
   cases q3:KY d with
   | some ds=>rw [q3] at w;exact fun c' J H' g i=>w c' J H' g i.w
   | none=>rw [q3] at w;exact w
theorem ZfP {elts:List Expr} {kk:Nat} (hg:Gl X "enumerate") (hm:X.mg "enumerate"=none) (ha:DA X W [a] fl) (hs:starEach [a] X.env=[(false,eval a X.env)]:=by rfl) :
  DWk X W (.Tuple elts kk tpos) (.Call (.Name "enumerate" p) [a] [] pos) (qpp fl):=fun c ρ m σ H R r s w =>
 YK (pi_enum hg hm Jc hs) (ha.qwB r s w fun ds m1 c1 vs H1 r1 s1 g1 h1 w1=>by
  split at w1
  ·obtain ⟨v,e1,h2⟩:=VDs.M9 h1
   subst e1
   split at w1
   ·rename_i q hq
    obtain ⟨a,vs,rfl,k1,k2,_⟩:=ZeJ r1 h2 hq
    exact ⟨a,vs,rfl,k2,w1 c1 _ H1 g1 (Zhc k1)⟩
   ·exact w1.elim
  ·exact w1.elim)
end
open Classical in
noncomputable def Yc (T:Store→Prop) (g:FG) (body:FS):List D→Rho→Store→Ib
 | [],ρ,m=>if T m then .nx ρ m else .stuck
 | d::ds,ρ,m=>if T m then (match (g d ρ m).seq body with
  | .nx ρ1 m1=>Yc T g body ds ρ1 m1
  | .ct ρ1 m1=>Yc T g body ds ρ1 m1
  | .bk ρ1 m1 => .nx ρ1 m1
  | r=>r) else .stuck
theorem Zgw {T:Store→Prop} {g:FG} {body:FS} {ds:List D} {ρ:Rho} {m:Store} (h:¬T m):Yc T g body ds ρ m = .stuck:=by
 cases ds <;> (unfold Yc;exact if_neg h)
theorem ZdE {T:Store→Prop} {g:FG} {body:FS} {ρ:Rho} {m:Store} (h:T m):Yc T g body [] ρ m = .nx ρ m:=by unfold Yc;exact if_pos h
theorem ZdD {T:Store→Prop} {g:FG} {body:FS} {d:D} {ds:List D} {ρ:Rho} {m:Store} (h:T m):Yc T g body (d::ds) ρ m=(match (g d ρ m).seq body with
  | .nx ρ1 m1=>Yc T g body ds ρ1 m1
  | .ct ρ1 m1=>Yc T g body ds ρ1 m1
  | .bk ρ1 m1 => .nx ρ1 m1
  | r=>r):=by rw [Yc];exact if_pos h
noncomputable def qpq (fi:FW) (g:FG) (body:FS):FS:=fun ρ m=>(fi ρ m).M5 ρ fun q m1=>Yc q.2 g body q.1 ρ m1
open Classical in
noncomputable def Yl (T:Store→Prop) (g:D→Rho→Option Rho) (t:Rho→Store→Res Bool) (fe:FE) (ρ:Rho):List D→Store→Res (List D)
 | [],m=>if T m then .ok [] m else .stuck
 | d::ds,m=>if T m then (match g d ρ with
  | none => .stuck
  | some ρ1=>(noX (t ρ1 m)).bind fun k m1=>if k then (noX (fe ρ1 m1)).bind fun y m2=>(Yl T g t fe ρ ds m2).bind fun ys m3 => .ok (y::ys) m3 else Yl T g t fe ρ ds m1) else .stuck
theorem Zht {T:Store→Prop} {g:D→Rho→Option Rho} {t:Rho→Store→Res Bool} {fe:FE} {ds:List D} {ρ:Rho} {m:Store} (h:¬T m):Yl T g t fe ρ ds m = .stuck:=by
 cases ds <;> (unfold Yl;exact if_neg h)
theorem ZbQ {T:Store→Prop} {g:D→Rho→Option Rho} {t:Rho→Store→Res Bool} {fe:FE} {ρ:Rho} {m:Store} (h:T m):Yl T g t fe ρ [] m = .ok [] m:=by unfold Yl;exact if_pos h
theorem ZbP {T:Store→Prop} {g:D→Rho→Option Rho} {t:Rho→Store→Res Bool} {fe:FE} {d:D} {ds:List D} {ρ:Rho} {m:Store} (h:T m):Yl T g t fe ρ (d::ds) m=(match g d ρ with
  | none => .stuck
  | some ρ1=>(noX (t ρ1 m)).bind fun k m1=>if k then (noX (fe ρ1 m1)).bind fun y m2=>(Yl T g t fe ρ ds m2).bind fun ys m3 => .ok (y::ys) m3 else Yl T g t fe ρ ds m1):=by rw [Yl];exact if_pos h
noncomputable def lcW (z:Md) (vs:List Nat) (fi:FW) (g:D→Rho→Option Rho) (t:Rho→Store→Res Bool) (fe:FE):FE:=fun ρ m=>(fi ρ m).bind fun q m1=>if q.1.length≤sizeLine then (Yl q.2 g t fe (Yp ρ vs) q.1 m1).bind fun ys m2=>ZV z ys m2 else .stuck
section
variable {X:Cx} {W:WX} {a b e tg iter elt:Expr} {ifs:List Expr} {scope:Scope} {own:List (Str×Nat)} {es:List Expr} {fa fb f fe:FE} {ft:Rho→Store→Res Bool} {pos p:Pos} {c c':Anc} {ρ:Rho} {m m':Store} {σ:St} {H H':Hp} {En:Ends} {body:List Stmt} {g:FG} {gb:FS} {fi:FW}
theorem Xg.qw1 {k:List D×(Store→Prop)→Store→Ib} {r:Res (List D×(Store→Prop))} (s:Slo X.kw H c ρ σ) (h:Xg X W c H (r.M5 ρ k) En) {R:It→Hp→Prop} (q:∀ds T m1,r = .ok (ds,T) m1→Xg X W c H (k (ds,T) m1) En→∀c' J H',Gd X.kw c c' m1 H H'→ItW X.kw c' H' J ds T→R J H'):Vx X W c H σ r R:=by
 cases r with
 | ok ds m1=>exact q ds.1 ds.2 m1 rfl h
 | exc x m1=>exact fun c1 cls dd H1 g hv=>h c1 σ cls dd H1 g (g.slots s) hv
 | stuck=>exact h
theorem Zgx (hp:PassesOwn (model X.prog X.w) X.A X.env X.xe) (hi:∀R,Vx X W c H σ (fi ρ m) R→WI X tg iter σ H R) (hg:DG X W tg g) (hb:DSs X W body gb) (hc:X.calm=true) (hs:∀x,foldedSetIterable iter X.env x=pure x) (r:Q9 X.kw c m H) (s:Slo X.kw H c ρ σ) (w:Xg X W c H (qpq fi g gb ρ m) En):WSt X (.For tg iter body [] pos) En σ H:=by
 refine JV (ps_for hp hc ZaJ Zcf Wx hs) (hi _ (Xg.qw1 s w fun ds T m1 e w1 c1 J H1 g1 hJ=>?_))
 have w1:=Xg.shift g1 w1
 refine ⟨fun i mm σ' H'=>∃c' ρ' m',Gd X.kw c1 c' m' H1 H'∧Slo X.kw H' c' ρ' σ'∧i≤ds.length∧mm=ds.length - i∧Xg X W c' H' (Yc T g gb (ds.drop i) ρ' m') En,
  ⟨ds.length,c1,ρ,m1,Gd.refl g1.rel,g1.slots s,Nat.zero_le _,by simp,by simpa using w1⟩,?_⟩
 rintro i mm σ2 H2 ⟨c2,ρ2,m2,g2,s2,hi2,hmm,w2⟩
 have hT:T m2:=by
  refine Classical.byContradiction fun hn=>?_
  rw [Zgw hn] at w2
  exact w2.elim
 obtain ⟨hgo,hstop⟩:=hJ c2 m2 H2 g2.pre g2.ext g2.rel hT i
 by_cases hlt:i < ds.length
 ·have ed:ds[i]?=some ds[i]:=List.getElem?_eq_getElem hlt
  obtain ⟨go,hy⟩:=hgo _ ed
  have w3:Xg X W c2 H2 (Yc T g gb (ds[i]::ds.drop (i+1)) ρ2 m2) En:=by rw [←List.drop_eq_getElem_cons hlt];exact w2
  refine .inr ⟨go,fun σ' H'=>∃c' ρ' m',Gd X.kw c1 c' m' H1 H'∧Slo X.kw H' c' ρ' σ'∧Xg X W c' H' (Yc T g gb (ds.drop (i+1)) ρ' m') En,?_,?_⟩
  ·rintro σ' H' ⟨c',ρ',m',h1,h2,h3⟩
   exact ⟨ds.length - (i+1),by omega,c',ρ',m',h1,h2,hlt,rfl,h3⟩
  ·intro x H3 yl
   obtain ⟨g3,_,hv⟩:=hy x H3 yl
   have w4:=Xg.shift g3 w3
   rw [ZdD hT] at w4
   let N:St→Hp→Prop:=fun σ' H'=>∃c' ρ' m',Gd X.kw c1 c' m' H1 H'∧Slo X.kw H' c' ρ' σ'∧Xg X W c' H' (Yc T g gb (ds.drop (i+1)) ρ' m') En
   refine hg c2 ρ2 m2 σ2 H3 x ds[i] { nx:=fun σ' H'=>WSs X body { En with nx:=N,ct:=N,bk:=En.nx } σ' H',rt:=En.rt,bk:=En.nx,ct:=N } g3.rel (g3.slots s2) hv ?_
   have w5:Xg X W c2 H3 (match (g ds[i] ρ2 m2).seq gb with
    | .nx ρ1 m1=>Yc T g gb (ds.drop (i+1)) ρ1 m1
    | .ct ρ1 m1=>Yc T g gb (ds.drop (i+1)) ρ1 m1
    | .bk ρ1 m1 => .nx ρ1 m1
    | r=>r) En:=w4
   cases q:g ds[i] ρ2 m2 with
   | nx ρ4 m4 =>
    rw [q] at w5
    intro c4 σ4 H4 g4 s4
    have w6:=Xg.shift g4 w5
    refine hb c4 ρ4 m4 σ4 H4 _ g4.rel s4 ?_
    change Xg X W c4 H4 (match gb ρ4 m4 with
     | .nx ρ1 m1=>Yc T g gb (ds.drop (i+1)) ρ1 m1
     | .ct ρ1 m1=>Yc T g gb (ds.drop (i+1)) ρ1 m1
     | .bk ρ1 m1 => .nx ρ1 m1
     | r=>r) En at w6
    cases q2:gb ρ4 m4 with
    | nx ρ5 m5 =>
     rw [q2] at w6
     exact fun c5 σ5 H5 g5 s5=>⟨c5,ρ5,m5,((g2.trans g3).trans g4).trans g5,s5,Xg.shift g5 w6⟩
    | ct ρ5 m5 =>
     rw [q2] at w6
     exact fun c5 σ5 H5 g5 s5=>⟨c5,ρ5,m5,((g2.trans g3).trans g4).trans g5,s5,Xg.shift g5 w6⟩
    | bk ρ5 m5=>rw [q2] at w6;exact w6
    | rt d m5=>rw [q2] at w6;exact w6
    | exc y ρ5 m5=>rw [q2] at w6;exact w6
    | stuck=>rw [q2] at w6;exact w6
   | ct ρ5 m5 =>
    rw [q] at w5
    exact fun c5 σ5 H5 g5 s5=>⟨c5,ρ5,m5,(g2.trans g3).trans g5,s5,Xg.shift g5 w5⟩
   | bk ρ5 m5=>rw [q] at w5;exact w5
   | rt d m5=>rw [q] at w5;exact w5
   | exc y ρ5 m5=>rw [q] at w5;exact w5
   | stuck=>rw [q] at w5;exact w5
 ·have e:i=ds.length:=by omega
  subst e
  refine .inl ⟨hstop (Nat.le_refl _),?_⟩
  rw [List.drop_length,ZdE hT] at w2
  exact w2 c2 σ2 H2 (Gd.refl g2.rel) s2
theorem Wd (hp:PassesOwn (model X.prog X.w) X.A X.env X.xe) (hi:DWk X W tg iter fi) (hg:DG X W tg g) (hb:DSs X W body gb) (hc:X.calm=true:=by rfl) (hs:∀x,foldedSetIterable iter X.env x=pure x:=by intro _;rfl):DS X W (.For tg iter body [] pos) (qpq fi g gb):=fun c ρ m σ H En r s w =>
 Zgx hp (fun R=>hi c ρ m σ H R r s) hg hb hc hs r s w
end
section
variable {X:Cx} {W:WX} {a b e tg iter elt:Expr} {ifs:List Expr} {scope:Scope} {own:List (Str×Nat)} {fa fb f fe:FE} {ft:Rho→Store→Res Bool} {pos p:Pos} {c c':Anc} {ρ:Rho} {m m':Store} {σ:St} {H H':Hp} {fi:FW} {En:Ends}
theorem ZdZ {z:Md} {is:List Nat} {g:D→Rho→Option Rho} {own:List (Str×Nat)} {Q Q':VK} (hi:∀R,Vx X W c H σ (fi ρ m) R→WI X tg iter σ H R)
  (hg:∀(s:Shared) (H:Hp) (C:Addr) (cl:List (Str×Addr)) (fp:List Addr),DLg (X.blk s H scope (compEnvC scope cl C X.env) fp) tg is g)
  (ht:∀(s:Shared) (H:Hp) (C:Addr) (cl:List (Str×Addr)) (fp:List Addr),DTs (X.blk s H scope (compEnvC scope cl C X.env) fp) ifs ft)
  (he:∀(s:Shared) (H:Hp) (C:Addr) (cl:List (Str×Addr)) (fp:List Addr),DE (X.blk s H scope (compEnvC scope cl C X.env) fp) Wno elt fe)
  (hsub:∀i∈is,i∈own.map (·.2)) (hc:X.calm=true) (r:Q9 X.kw c m H) (s:Slo X.kw H c ρ σ) (w:Want X W c H σ (lcW z (own.map (·.2)) fi g ft fe ρ m) Q) (hq:∀v H,QF Q v H→Q' v H) :
  tLc (WI X tg iter) (rG X scope tg) (rT X scope ifs) (rE X scope elt) (own.map (·.2)) σ H Q':=by
 have hk:∀s0 H0 cenv fp,(X.blk s0 H0 scope cenv fp).kw=X.kw:=fun s0 H0 cenv fp=>by simp [Cx.kw,hc]
 refine hi _ ?_
 unfold lcW at w
 cases q:fi ρ m with
 | stuck=>rw [q] at w;exact w.elim
 | exc x m1=>rw [q] at w;exact w
 | ok dt m1 =>
  obtain ⟨ds,T⟩:=dt
  rw [q] at w
  intro c1 J H1 g1 hJ D hD
  have w:Want X W c H σ (if ds.length≤sizeLine then (Yl T g ft fe (Yp ρ (own.map (·.2))) ds m1).bind fun ys m2=>ZV z ys m2 else .stuck) Q:=w
  by_cases hz:ds.length≤sizeLine
  ·rw [if_pos hz] at w
   have w1:=Want.shift g1 w
   have nD:¬Has c1 D:=g1.rel.not hD
   have s1:=(g1.slots s).wipe (own.map (·.2))
   -- the rest of the run,from the items that are left and those that are made
   let Rest:Nat→Hp→List V→Prop:=fun i H' acc=>∃c' m' ys,Gd X.kw c1 c' m' H1 H'∧¬Has c' D∧H' D=some (.lst acc)∧VDs X.kw H' c' acc ys∧acc.length≤i ∧
    Want X W c1 H1 σ ((Yl T g ft fe (Yp ρ (own.map (·.2))) (ds.drop i) m').bind fun zs m2=>ZV z (ys++zs) m2) Q
   refine ⟨fun i mm H'=>i≤ds.length∧mm=ds.length - i∧∃acc,Rest i H' acc,⟨ds.length,Nat.zero_le _,by simp,[],c1,m1,[],?_,nD,upd_same,by unfold VDs;rfl,Nat.le_refl _,by simpa using w1⟩,?_⟩
   ·exact g1.rel.lay hD
   ·rintro i mm H2 ⟨hi2,hmm,acc,c2,m2,ys,g2,nD2,hD2,hv2,hl2,w2⟩
    have hT:T m2:=by
     refine Classical.byContradiction fun hn=>?_
     rw [Zht hn] at w2
     exact w2.elim
    obtain ⟨hgo,hstop⟩:=hJ c2 m2 H2 g2.pre g2.ext g2.rel hT i
    by_cases hlt:i < ds.length
    ·have ed:ds[i]?=some ds[i]:=List.getElem?_eq_getElem hlt
     obtain ⟨go,hy⟩:=hgo _ ed
     have e1:ds.drop i=ds[i]::ds.drop (i+1):=List.drop_eq_getElem_cons hlt
     rw [e1,ZbP hT] at w2
     refine .inr ⟨go,fun H'=>∃acc,Rest (i+1) H' acc,fun H' h=>⟨ds.length - (i+1),by omega,hlt,rfl,h⟩,fun x H3 yl=>?_⟩
     obtain ⟨g3,k3,hv⟩:=hy x H3 yl
     have g23:=g2.trans g3
     have hD3:H3 D=some (.lst acc):=k3 D _ hD2
     intro s0 H0 C cl fp
     cases q1:g ds[i] (Yp ρ (own.map (·.2))) with
     | none=>simp only [q1,Res.bind] at w2;exact w2.elim
     | some ρ1 =>
      refine hg s0 H0 C cl fp c2 _ ρ1 _ H3 x ds[i] _ (by rw [hk];exact g23.slots s1) (by rw [hk];exact hv) q1 fun σ1 s3 hl hj=>⟨?_,?_⟩
      ·rw [show wipe σ (own.map (·.2))=wipe (wipe σ (own.map (·.2))) (own.map (·.2)) from (ZaY (wipe_length _ _) fun j hj=>wipe_out hj).symm]
       exact ZaY hl fun j hm=>hj j fun z=>hm (hsub j z)
      ·intro s4 H4 C4 cl4 fp4 qvY st4 I4
       simp only [q1] at w2
       rw [hk] at s3
       refine ht s4 H4 C4 cl4 fp4 c2 ρ1 m2 σ1 H3 _ (by rw [hk];exact g3.rel) (by rw [hk];exact s3) ?_ qvY st4 I4
       cases q2:ft ρ1 m2 with
       | stuck=>simp only [q2,noX,Res.bind] at w2;exact w2.elim
       | exc y m5=>simp only [q2,noX,Res.bind] at w2;exact w2.elim
       | ok k m5 =>
        intro c5 H5 g5
        rw [hk] at g5
        have g25:=g23.trans g5
        have hD5:H5 D=some (.lst acc):=g5.frame D _ nD2 hD3
        have nD5:¬Has c5 D:=fun z=>(g5.new D z).elim nD2 fun e=>by rw [hD3] at e;cases e
        simp only [q2,noX,Res.bind] at w2
        cases k with
        | false =>
         rw [if_neg Bool.false_ne_true]
         exact ⟨acc,c5,m5,ys,g25,nD5,hD5,g5.vds (g3.vds hv2),Nat.le_succ_of_le hl2,w2⟩
        | true =>
         rw [if_pos rfl]
         intro s6 H6 C6 cl6 fp6
         refine he s6 H6 C6 cl6 fp6 c5 ρ1 m5 σ1 H5 _ (by rw [hk];exact g5.rel) (by rw [hk];exact g5.slots s3) ?_
         cases q3:fe ρ1 m5 with
         | stuck=>simp only [q3,noX,if_true,Res.bind] at w2;exact w2.elim
         | exc y m7=>simp only [q3,noX,if_true,Res.bind] at w2;exact w2.elim
         | ok y m7 =>
          simp only [q3,noX,if_true,Res.bind] at w2
          intro c7 vy H7 g7 hy7
          rw [hk] at g7 hy7
          have g27:=g25.trans g7
          have hD7:H7 D=some (.lst acc):=g7.frame D _ nD5 hD5
          have nD7:¬Has c7 D:=fun z=>(g7.new D z).elim nD5 fun e=>by rw [hD5] at e;cases e
          refine ⟨acc,hD7,by omega,acc++[vy],c7,m7,ys++[y],?_,nD7,upd_same,?_,by simpa using hl2,?_⟩
          ·have ex:Ext H7 (upd H7 D (.lst (acc++[vy]))):=Ext.put hD7
           exact ⟨g27.pre,g27.ext.trans ex,g27.new,fun b u hb e=>by rw [upd_ne (fun z=>by rw [z,hD] at e;cases e)];exact g27.frame b u hb e,g27.rel.side nD7 hD7⟩
          ·have ex:Ext H7 (upd H7 D (.lst (acc++[vy]))):=Ext.put hD7
           exact VDs.mono ex (Pre.refl _) _ ((g7.vds (g5.vds (g3.vds hv2))).append (VDs.one hy7))
          ·cases q4:Yl T g ft fe (Yp ρ (own.map (·.2))) (ds.drop (i+1)) m7 with
           | ok zs m8=>simp only [q4,Res.bind] at w2 ⊢;rw [List.append_assoc];exact w2
           | exc y m8=>simp only [q4,Res.bind] at w2 ⊢;exact w2
           | stuck=>simp only [q4,Res.bind] at w2 ⊢;exact w2
    ·have e:i=ds.length:=by omega
     subst e
     refine .inl ⟨hstop (Nat.le_refl _),?_⟩
     rw [List.drop_length,ZbQ hT] at w2
     have w3:Want X W c1 H1 σ (ZV z ys m2) Q:=by simpa [Res.bind] using w2
     exact hq _ _ (Zd9 g2 hD nD2 hD2 hv2 w3)
  ·rw [if_neg hz] at w;exact w.elim
theorem ZfB (z:Md) {is:List Nat} {g:D→Rho→Option Rho} (own:List (Str×Nat)) (hN:X.N.Nodup) (hi:DWk X W tg iter fi) (ok:blkC X.N X.env.scope scope own=true)
  (hg:∀(s:Shared) (H:Hp) (C:Addr) (cl:List (Str×Addr)) (fp:List Addr),DLg (X.blk s H scope (compEnvC scope cl C X.env) fp) tg is g)
  (ht:∀(s:Shared) (H:Hp) (C:Addr) (cl:List (Str×Addr)) (fp:List Addr),DTs (X.blk s H scope (compEnvC scope cl C X.env) fp) ifs ft)
  (he:∀(s:Shared) (H:Hp) (C:Addr) (cl:List (Str×Addr)) (fp:List Addr),DE (X.blk s H scope (compEnvC scope cl C X.env) fp) Wno elt fe)
  (hsub:∀i∈is,i∈own.map (·.2):=by decide) (hc:X.calm=true:=by rfl) (hs:∀x,foldedSetIterable iter X.env x=pure x:=by intro _;rfl) :
  DE X W (.ListComp elt [⟨tg,iter,ifs,0⟩] scope pos) (lcW z (own.map (·.2)) fi g ft fe):=fun c ρ m σ H Q r s w =>
 WE.frz (Z9 (pe_lc hc hN ZaJ (blkOk_by ok) Zce Zcg Zcd hs) (ZdZ (fun R=>hi c ρ m σ H R r s) hg ht he hsub hc r s w fun _ _ h=>h))
theorem ZfO (z:Md) (i:Nat) {y:Str} {py spos:Pos} {is:List Nat} {g:D→Rho→Option Rho} (own:List (Str×Nat)) (hN:X.N.Nodup) (hi:DWk X W tg iter fi) (ok:blkC X.N X.env.scope scope own=true)
  (hg:∀(s:Shared) (H:Hp) (C:Addr) (cl:List (Str×Addr)) (fp:List Addr),DLg (X.blk s H scope (compEnvC scope cl C X.env) fp) tg is g)
  (ht:∀(s:Shared) (H:Hp) (C:Addr) (cl:List (Str×Addr)) (fp:List Addr),DTs (X.blk s H scope (compEnvC scope cl C X.env) fp) ifs ft)
  (he:∀(s:Shared) (H:Hp) (C:Addr) (cl:List (Str×Addr)) (fp:List Addr),DE (X.blk s H scope (compEnvC scope cl C X.env) fp) Wno elt fe)
  (hsw:swapsWith (.ListComp elt [⟨tg,iter,ifs,0⟩] scope pos) (some (.Name y py)) spos.line X.env=pure true)
  (hy:X.N[i]?=some y:=by rfl) (hyl:X.env.scope.names.lookup y=some .local:=by rfl)
  (hsub:∀i∈is,i∈own.map (·.2):=by decide) (hc:X.calm=true:=by rfl) (hs:∀x,foldedSetIterable iter X.env x=pure x:=by intro _;rfl) :
  DS X W (.Assign [.Name y py] (.ListComp elt [⟨tg,iter,ifs,0⟩] scope pos) spos) (Zm i (lcW z (own.map (·.2)) fi g ft fe)):=fun c ρ m σ H En r s w=>by
 refine WSt.frz (JV (ps_setLc hc hN hy hyl hsw ZaJ (blkOk_by ok) Zce Zcg Zcd hs) ?_)
 refine ZdZ (z:=z) (Q:=fun v H1=>En.nx (σ.set i (some v)) H1) (fun R=>hi c ρ m σ H R r s) hg ht he hsub hc r s ?_ fun v H1 h=>?_
 ·unfold Zm at w
  cases q:lcW z (own.map (·.2)) fi g ft fe ρ m with
  | ok d m1 =>
   rw [q] at w
   exact fun c1 v H1 g1 hv=>w c1 _ H1 g1 ((g1.slots s).set i hv)
  | exc x m1 =>
   rw [q] at w
   exact fun c1 cls dd H1 g1 hv=>w c1 σ cls dd H1 g1 (g1.slots s) hv
  | stuck=>rw [q] at w;exact w
 ·rcases h with h | ⟨a,xs,e1,e2,mu,h⟩
  ·exact .inl h
  ·exact .inr ⟨a,xs,e2,mu,h⟩
end
end L2.Dn
namespace L2.Dn
open PySem PySem.Spec PyProof.Rows L2
end L2.Dn
namespace L2.Dn
open PySem PySem.Spec PyProof.Rows L2
variable {m:Store} {z:Md}
theorem Zf3 (n:Bool) (i j:Int):eqP n (.p (.int i)) (.p (.int j)) m=some (.p (.bool (if n then !(i == j) else (i == j))),m):=by
 simp only [eqP,ZaX,SeqAt.shaped,PyData.canLay0,PyData.depth,PyData.eqv]
 rfl
theorem Jo (n:Bool) (i j:Int):eqG n (.p (.int i)) (.p (.int j)) m=some (.p (.bool (if n then !(i == j) else (i == j))),m):=Zf3 n i j
theorem Zf1 (n:Bool) (x y:Str):eqG n (.p (.str x)) (.p (.str y)) m=some (.p (.bool (if n then !(x == y) else (x == y))),m):=rfl
theorem U5 (i j:Int):Zq z (.p (.int i)) (.p (.int j)) m=some (.p (.int (i+j)),m):=rfl
theorem WF (i j:Int):ZcF (.p (.int i)) (.p (.int j)) m=some (.p (.int (i - j)),m):=rfl
theorem Vn (i j:Int):ltI (.p (.int i)) (.p (.int j)) m=some (.p (.bool (decide (i < j))),m):=rfl
theorem Ws (i j:Int):leI (.p (.int i)) (.p (.int j)) m=some (.p (.bool (decide (i≤j))),m):=rfl
theorem Wi (i j:Int):gtI (.p (.int i)) (.p (.int j)) m=some (.p (.bool (decide (j < i))),m):=rfl
theorem Wh (i j:Int):geI (.p (.int i)) (.p (.int j)) m=some (.p (.bool (decide (j≤i))),m):=rfl
theorem ZhO {i j:Int} (h:(small i || small j)=true):V1 (.p (.int i)) (.p (.int j)) m=some (.p (.int (i*j)),m):=by
 simp only [V1,ZX,ZbV,intOp,h,if_true]
theorem Yv {i j:Int} (h:0 < j):ZP (.p (.int i)) (.p (.int j)) m=some (.p (.int (i % j)),m):=by
 simp only [ZP,intOp,decide_eq_true h,if_true]
theorem Zbv {i j:Int} (h:0 < j) (h2:j < 2 ^ 64):Jr (.p (.int i)) (.p (.int j)) m=some (.p (.int (i / j)),m):=by
 simp only [Jr,intOp,decide_eq_true h,decide_eq_true h2,Bool.and_self,if_true]
theorem Wj (i:Int):intD [.p (.int i)] m=some (.p (.int i),m):=rfl
theorem ZbY (i:Int):ZhR (.p (.int i)) m=some (.p (.int (-i)),m):=rfl
theorem Zhx (ds:List PyData):JG [.p (.list ds)] m=some (.p (.int ds.length),m):=by
 simp only [JG,Yw,Ym,List.length_map]
theorem Zhy (ds:List PyData):JG [.p (.tuple ds)] m=some (.p (.int ds.length),m):=by
 simp only [JG,Yw,List.length_map]
theorem Ze8 {α:Type} {xs:List α} {k:Int} (h0:0≤k):L2.atI xs k=xs[k.toNat]?:=by
 unfold L2.atI ixN
 rw [if_pos h0]
 split
 ·rfl
 ·rw [List.getElem?_eq_none (by omega)]
  rfl
theorem Zhf {ds:List PyData} {k:Int} (h:0≤k):ixD (.p (.list ds)) (.p (.int k)) m=(ds[k.toNat]?).map fun d=>(.p d,m):=by
 simp only [ixD,Yw,Ym,Ze8 h,List.getElem?_map,Option.map_map]
 rfl
theorem WY {g h:D→D→Store→OD} {x y:D} {r:D×Store} (e:g x y m=some r):ZX g h x y m=some r:=by
 unfold ZX
 rw [e]
theorem Zd7 {i j:Int} (h:(small i || small j)=true):Z7 z (.p (.int i)) (.p (.int j)) m=some (.p (.int (i*j)),m):=WY (ZhO h)
theorem JH (ds:List PyData):Ja [.p (.list ds)] m=some (.p (.int ds.length),m):=by
 simp only [Ja,Zhx]
theorem ZbR (ds:List PyData):Ja [.p (.tuple ds)] m=some (.p (.int ds.length),m):=by
 simp only [Ja,Zhy]
theorem ZbM {ds:List PyData} {k:Int} {d:PyData} (h:0≤k) (e:ds[k.toNat]?=some d):ixG (.p (.list ds)) (.p (.int k)) m=some (.p d,m):=WY (by rw [Zhf h,e];rfl)
structure Bag where
 b0:Int
 b1:Int
 b2:Int
 cs:List Int
def Bag.cell (b:Bag):Cell := .lst [.p (.int b.b0),.p (.int b.b1),.p (.int b.b2),.p (.list (b.cs.map .int))]
section
variable {α β:Type} {a:α} {x:Exn} {ρ:Rho} {d:D}
theorem Z5 {k:α→Store→Res β}:(Res.ok a m).bind k=k a m:=rfl
theorem Jj {k:α→Store→Ib}:(Res.ok a m).M5 ρ k=k a m:=rfl
theorem Yi:lift (some (d,m)) = .ok d m:=rfl
theorem JT {b:Bool}:WK (.ok (.p (.bool b)) m) = .ok b m:=rfl
theorem Vs {k:FS}:(Ib.nx ρ m).seq k=k ρ m:=rfl
theorem WD {k:FS}:(Ib.rt d m).seq k = .rt d m:=rfl
theorem Zbw {d:PyData}:fin (.rt (.p d) m) = .ok (.p d) m.g:=rfl
theorem ZeD {d:D} {g l:List Cell}:(RG.ok d g).res l = .ok d ⟨g,l⟩:=rfl
theorem Y0 (g:D→D→Store→OD) (fa fb:FE):opE g fa fb ρ m=(fa ρ m).bind fun x m1=>(fb ρ m1).bind fun y m2=>lift (g x y m2):=rfl
theorem Yo {r:Rho}:vE 0 (some d::r) m = .ok d m:=rfl
theorem Jx {i:Nat} {o:Option D} {r:Rho}:vE (i+1) (o::r) m=vE i r m:=by
 unfold vE
 rw [List.getElem?_cons_succ]
theorem Zef {d:PyData} {i:Ix}:okIn (.p d) i=true:=by cases i <;> rfl
theorem ite_tt {γ:Type} {a b:γ}:(if true=true then a else b)=a:=rfl
theorem ite_ff {γ:Type} {a b:γ}:(if false=true then a else b)=b:=rfl
end
end L2.Dn
namespace L2.Dn
open PySem PySem.Spec PyProof.Rows L2
def ZjT:FS:=(Zi (ifS (Z3 (opE (eqG false) (opE ixG (vE 0) (cE (.int 0))) (cE (.int 0)))) (Zi (Zm 2 (cE (.int 0)))
 (Zi (ifS (Z3 (opE ltI (opE ixG (vE 0) (cE (.int 2))) (Zf Ja (Za (opE ixG (vE 0) (cE (.int 3))) Zb)))) (Zm 2 (opE ixG (opE ixG (vE 0) (cE (.int 3))) (opE ixG (vE 0) (cE (.int 2))))) ZF)
 (Zi (Y8 Y7 (vE 0) (cE (.int 2)) (cE (.int 1)))
 (Zi (ifS (Z3 (opE geI (vE 2) (opE JP (cE (.int 10)) (cE (.int 18))))) (Yk (vE 2) (Yn setG (vE 0) (cE (.int 0)))) ZF)
 (Zi (Zm 3 (opE (Zq .z) (opE (Zq .z) (opE (Z7 .z) (opE ixG (vE 0) (cE (.int 1))) (cE (.int 48271))) (opE ZP (Zf intD (Za (vE 2) Zb)) (cE (.int 2147483647)))) (opE (Z7 .z) (cE (.int 7919)) (opE ixG (vE 0) (cE (.int 2))))))
 (Yk (opE ZP (Zf intD (Za (vE 3) Zb)) (cE (.int 2147483647))) (Yn setG (vE 0) (cE (.int 1))))))))) ZF)
 (Zi (ifS (Z3 (opE gtI (opE ixG (vE 0) (cE (.int 0))) (cE (.int 0)))) (Zi (Zm 4 (opE ZP (Zf intD (Za (opE ixG (vE 0) (cE (.int 0))) Zb)) (vE 1)))
 (Zi (Yk (opE Jr (Zf intD (Za (opE ixG (vE 0) (cE (.int 0))) Zb)) (vE 1)) (Yn setG (vE 0) (cE (.int 0))))
 (retS (vE 4)))) ZF)
 (Zi (Zm 5 (opE ZP (Zf intD (Za (opE (Z7 .z) (opE (Zq .z) (opE ixG (vE 0) (cE (.int 1))) (cE (.int 1))) (cE (.int 39373))) Zb)) (cE (.int 1000000007))))
 (Zi (Zm 6 (opE ZP (Zf intD (Za (opE (Z7 .z) (vE 5) (vE 5)) Zb)) (cE (.int 998244353))))
 (Zi (Zm 6 (opE ZP (Zf intD (Za (opE (Z7 .z) (vE 6) (cE (.int 30011))) Zb)) (cE (.int 998244353))))
 (Zi (ifS (Z3 (opE gtI (vE 1) (cE (.int 1000000)))) (retS (opE ZP (Zf intD (Za (opE (Zq .z) (opE (Z7 .z) (vE 6) (cE (.int 1000000007))) (vE 5)) Zb)) (vE 1))) ZF)
 (retS (opE ZP (Zf intD (Za (opE Jr (vE 6) (cE (.int 7))) Zb)) (vE 1)))))))))
def Za8:FS:=(retS (Zo .g (Za (cE (.int 0)) (Za (cE (.int 1234567891)) (Za (cE (.int 0)) (Za (lcE .z [1] (Jh (slE (slD .z) (vE 0) noO (someO (cE (.int 63))))) (Ju 1) Ji (Zf JX (Za (vE 1) Zb))) Zb))))))
/-- the qw0 list,at the qwP head -/
def Z4 (a b c:Int) (cs:List PyData):Cell := .lst [.p (.int a),.p (.int b),.p (.int c),.p (.list cs)]
section
variable {a b c d:Int} {cs:List PyData} {g l:List Cell}
theorem U7:ixG (.cell (.g 0)) (.p (.int 0)) ⟨Z4 a b c cs::g,l⟩=some (.p (.int a),⟨Z4 a b c cs::g,l⟩):=rfl
theorem Zc4:ixG (.cell (.g 0)) (.p (.int 1)) ⟨Z4 a b c cs::g,l⟩=some (.p (.int b),⟨Z4 a b c cs::g,l⟩):=rfl
theorem W0:ixG (.cell (.g 0)) (.p (.int 2)) ⟨Z4 a b c cs::g,l⟩=some (.p (.int c),⟨Z4 a b c cs::g,l⟩):=rfl
theorem W3:ixG (.cell (.g 0)) (.p (.int 3)) ⟨Z4 a b c cs::g,l⟩=some (.p (.list cs),⟨Z4 a b c cs::g,l⟩):=rfl
theorem Zc7:setG (.cell (.g 0)) (.p (.int 0)) (.p (.int d)) ⟨Z4 a b c cs::g,l⟩=some ⟨Z4 d b c cs::g,l⟩:=rfl
theorem Zc8:setG (.cell (.g 0)) (.p (.int 1)) (.p (.int d)) ⟨Z4 a b c cs::g,l⟩=some ⟨Z4 a d c cs::g,l⟩:=rfl
theorem Zc9:setG (.cell (.g 0)) (.p (.int 2)) (.p (.int d)) ⟨Z4 a b c cs::g,l⟩=some ⟨Z4 a b d cs::g,l⟩:=rfl
theorem Zda:Y6 (.cell (.g 0)) (.p (.int 2)) (.p (.int d)) ⟨Z4 a b c cs::g,l⟩=some ⟨Z4 a b d cs::g,l⟩:=rfl
theorem Zc3:getL (.cell (.g 0)) (.p (.int 2)) ⟨Z4 a b c cs::g,l⟩=some (.p (.int c)):=rfl
end
theorem U6 {m:Store} (i j:Int):Y7 (.p (.int i)) (.p (.int j)) m=some (.p (.int (i+j)),m):=rfl
theorem mul_r {m:Store} {i j:Int} (h:small j=true):Z7 .z (.p (.int i)) (.p (.int j)) m=some (.p (.int (i*j)),m):=Zd7 (by rw [h,Bool.or_true])
theorem V2 {m:Store} {i j:Int} (h:small i=true):Z7 .z (.p (.int i)) (.p (.int j)) m=some (.p (.int (i*j)),m):=Zd7 (by rw [h];rfl)
theorem Zi0 {i:Int} (h0:0≤i) (h:i < 2 ^ 64):small i=true:=by
 have h1 : -(2 ^ 64) < i:=by omega
 simp only [small,decide_eq_true h1,decide_eq_true h,Bool.and_self]
theorem Zer {m:Store}:JP (.p (.int 10)) (.p (.int 18)) m=some (.p (.int 1000000000000000000),m):=rfl
local macro_rules | `(tactic| walk_at "ev") => `(tactic| try simp only [Zi, ifS, Zm, Yk, Yn, Y8, retS, Vh, ZF, Z3, Y0, Zf, Za, Zb, cE, Yo, Jx, Z5, Jj, Yi, JT, Vs, WD, Zbw, ZeD, List.set_cons_zero, List.set_cons_succ,
 U7,Zc4,W0,W3,Zc7,Zc8,Zc9,Zda,Zc3,U6,Zer,ite_tt,ite_ff,U5,WF,Vn,Ws,Wi,Wh,Jo,Wj,JH,Bool.false_eq_true,if_false,if_true])
/-- the bag holds whole numbers,none below 0 -/
structure qlM (a b c:Int) (cs:List PyData):Prop where
 h0:0≤a
 h1:0≤b
 h1':b < 2147483647
 h2:0≤c
 hc:∀x∈cs,∃i:Int,x = .int i∧0≤i
/-- the qwW second half -/
def takeT:FS:=(Zi (ifS (Z3 (opE gtI (opE ixG (vE 0) (cE (.int 0))) (cE (.int 0)))) (Zi (Zm 4 (opE ZP (Zf intD (Za (opE ixG (vE 0) (cE (.int 0))) Zb)) (vE 1)))
 (Zi (Yk (opE Jr (Zf intD (Za (opE ixG (vE 0) (cE (.int 0))) Zb)) (vE 1)) (Yn setG (vE 0) (cE (.int 0))))
 (retS (vE 4)))) ZF)
 (Zi (Zm 5 (opE ZP (Zf intD (Za (opE (Z7 .z) (opE (Zq .z) (opE ixG (vE 0) (cE (.int 1))) (cE (.int 1))) (cE (.int 39373))) Zb)) (cE (.int 1000000007))))
 (Zi (Zm 6 (opE ZP (Zf intD (Za (opE (Z7 .z) (vE 5) (vE 5)) Zb)) (cE (.int 998244353))))
 (Zi (Zm 6 (opE ZP (Zf intD (Za (opE (Z7 .z) (vE 6) (cE (.int 30011))) Zb)) (cE (.int 998244353))))
 (Zi (ifS (Z3 (opE gtI (vE 1) (cE (.int 1000000)))) (retS (opE ZP (Zf intD (Za (opE (Zq .z) (opE (Z7 .z) (vE 6) (cE (.int 1000000007))) (vE 5)) Zb)) (vE 1))) ZF)
 (retS (opE ZP (Zf intD (Za (opE Jr (vE 6) (cE (.int 7))) Zb)) (vE 1))))))))
def ZcV:FS:=(ifS (Z3 (opE (eqG false) (opE ixG (vE 0) (cE (.int 0))) (cE (.int 0)))) (Zi (Zm 2 (cE (.int 0)))
 (Zi (ifS (Z3 (opE ltI (opE ixG (vE 0) (cE (.int 2))) (Zf Ja (Za (opE ixG (vE 0) (cE (.int 3))) Zb)))) (Zm 2 (opE ixG (opE ixG (vE 0) (cE (.int 3))) (opE ixG (vE 0) (cE (.int 2))))) ZF)
 (Zi (Y8 Y7 (vE 0) (cE (.int 2)) (cE (.int 1)))
 (Zi (ifS (Z3 (opE geI (vE 2) (opE JP (cE (.int 10)) (cE (.int 18))))) (Yk (vE 2) (Yn setG (vE 0) (cE (.int 0)))) ZF)
 (Zi (Zm 3 (opE (Zq .z) (opE (Zq .z) (opE (Z7 .z) (opE ixG (vE 0) (cE (.int 1))) (cE (.int 48271))) (opE ZP (Zf intD (Za (vE 2) Zb)) (cE (.int 2147483647)))) (opE (Z7 .z) (cE (.int 7919)) (opE ixG (vE 0) (cE (.int 2))))))
 (Yk (opE ZP (Zf intD (Za (vE 3) Zb)) (cE (.int 2147483647))) (Yn setG (vE 0) (cE (.int 1))))))))) ZF)
theorem ZjV {a b c n:Int} {cs:List PyData} {g l:List Cell} {o2 o3:Option D} (hb:qlM a b c cs) (h0:0 < n) (h1:n < 2 ^ 64) :
  ∃r a',0≤r∧r < n∧qlM a' b c cs∧fin (takeT [some (.cell (.g 0)),some (.p (.int n)),o2,o3,none,none,none] ⟨Z4 a b c cs::g,l⟩) = .ok (.p (.int r)) (Z4 a' b c cs::g):=by
 unfold takeT
 by_cases hz:0 < a
 ·refine ⟨a % n,a / n,Int.emod_nonneg _ (by omega),Int.emod_lt_of_pos _ h0,⟨Int.ediv_nonneg hb.h0 (by omega),hb.h1,hb.h1',hb.h2,hb.hc⟩,?_⟩
  walk_at "ev"
  simp only [decide_eq_true hz,if_true]
  walk_at "ev"
  simp only [Yv h0,Zbv h0 h1]
  walk_at "ev"
  simp only [Zbv h0 h1]
  walk_at "ev"
 ·have d0:(0:Int) < 1000000007:=by decide
  have d1:(0:Int) < 998244353:=by decide
  have d7:(0:Int) < 7:=by decide
  have d8:(7:Int) < 2 ^ 64:=by decide
  have s0:small 39373=true:=by decide
  have s1:small 30011=true:=by decide
  have s2:small 1000000007=true:=by decide
  have s3:small ((b+1)*39373 % 1000000007)=true:=Zi0 (Int.emod_nonneg _ (by decide)) (Int.lt_trans (Int.emod_lt_of_pos _ d0) (by decide))
  by_cases hm:1000000 < n
  ·refine ⟨(((((b+1)*39373 % 1000000007)*((b+1)*39373 % 1000000007) % 998244353)*30011 % 998244353)*1000000007+((b+1)*39373 % 1000000007)) % n,a,Int.emod_nonneg _ (by omega),Int.emod_lt_of_pos _ h0,hb,?_⟩
   walk_at "ev"
   simp only [decide_eq_false hz,Bool.false_eq_true,if_false]
   walk_at "ev"
   simp only [mul_r s0]
   walk_at "ev"
   simp only [Yv d0]
   walk_at "ev"
   simp only [mul_r s3]
   walk_at "ev"
   simp only [Yv d1]
   walk_at "ev"
   simp only [mul_r s1]
   walk_at "ev"
   simp only [Yv d1]
   walk_at "ev"
   simp only [decide_eq_true hm,if_true]
   walk_at "ev"
   simp only [mul_r s2]
   walk_at "ev"
   simp only [Yv h0]
   walk_at "ev"
  ·refine ⟨((((b+1)*39373 % 1000000007)*((b+1)*39373 % 1000000007) % 998244353)*30011 % 998244353) / 7 % n,a,Int.emod_nonneg _ (by omega),Int.emod_lt_of_pos _ h0,hb,?_⟩
   walk_at "ev"
   simp only [decide_eq_false hz,Bool.false_eq_true,if_false]
   walk_at "ev"
   simp only [mul_r s0]
   walk_at "ev"
   simp only [Yv d0]
   walk_at "ev"
   simp only [mul_r s3]
   walk_at "ev"
   simp only [Yv d1]
   walk_at "ev"
   simp only [mul_r s1]
   walk_at "ev"
   simp only [Yv d1]
   walk_at "ev"
   simp only [decide_eq_false hm,Bool.false_eq_true,if_false]
   walk_at "ev"
   simp only [Zbv d7 d8]
   walk_at "ev"
   simp only [Yv h0]
   walk_at "ev"
theorem Ze9 {a b c:Int} {cs:List PyData} (hb:qlM a b c cs) {m:Store} (h:c < cs.length):∃i:Int,0≤i∧ixG (.p (.list cs)) (.p (.int c)) m=some (.p (.int i),m):=by
 have hl:c.toNat < cs.length:=by have:=hb.h2;omega
 obtain ⟨i,e,hi⟩:=hb.hc cs[c.toNat] (List.getElem_mem hl)
 refine ⟨i,hi,?_⟩
 exact ZbM hb.h2 (by rw [List.getElem?_eq_getElem hl,e])
theorem ZjU {a b c n:Int} {cs:List PyData} {g l:List Cell} (hb:qlM a b c cs) :
  ∃a' b' c' o2 o3,qlM a' b' c' cs∧ZcV [some (.cell (.g 0)),some (.p (.int n)),none,none,none,none,none] ⟨Z4 a b c cs::g,l⟩ = .nx [some (.cell (.g 0)),some (.p (.int n)),o2,o3,none,none,none] ⟨Z4 a' b' c' cs::g,l⟩:=by
 unfold ZcV
 by_cases hz:(a == 0)=true
 ·have s0:small 48271=true:=by decide
  have s1:small 7919=true:=by decide
  have d0:(0:Int) < 2147483647:=by decide
  have key:∀x:Int,0≤x→∃a' b' c' o2 o3,qlM a' b' c' cs∧(Zi (Y8 Y7 (vE 0) (cE (.int 2)) (cE (.int 1)))
 (Zi (ifS (Z3 (opE geI (vE 2) (opE JP (cE (.int 10)) (cE (.int 18))))) (Yk (vE 2) (Yn setG (vE 0) (cE (.int 0)))) ZF)
 (Zi (Zm 3 (opE (Zq .z) (opE (Zq .z) (opE (Z7 .z) (opE ixG (vE 0) (cE (.int 1))) (cE (.int 48271))) (opE ZP (Zf intD (Za (vE 2) Zb)) (cE (.int 2147483647)))) (opE (Z7 .z) (cE (.int 7919)) (opE ixG (vE 0) (cE (.int 2))))))
 (Yk (opE ZP (Zf intD (Za (vE 3) Zb)) (cE (.int 2147483647))) (Yn setG (vE 0) (cE (.int 1))))))) [some (.cell (.g 0)),some (.p (.int n)),some (.p (.int x)),none,none,none,none] ⟨Z4 a b c cs::g,l⟩ = .nx [some (.cell (.g 0)),some (.p (.int n)),o2,o3,none,none,none] ⟨Z4 a' b' c' cs::g,l⟩:=by
   intro x hx
   by_cases hw:(1000000000000000000:Int)≤x
   ·refine ⟨x,(b*48271+x % 2147483647+7919*(c+1)) % 2147483647,c+1,some (.p (.int x)),some (.p (.int (b*48271+x % 2147483647+7919*(c+1)))),⟨hx,Int.emod_nonneg _ (by decide),Int.emod_lt_of_pos _ d0,by have:=hb.h2;omega,hb.hc⟩,?_⟩
    walk_at "ev"
    simp only [decide_eq_true hw,if_true]
    walk_at "ev"
    simp only [mul_r s0,V2 s1,Yv d0]
    walk_at "ev"
    simp only [mul_r s0,V2 s1,Yv d0]
    walk_at "ev"
    simp only [mul_r s0,V2 s1,Yv d0]
    walk_at "ev"
   ·refine ⟨a,(b*48271+x % 2147483647+7919*(c+1)) % 2147483647,c+1,some (.p (.int x)),some (.p (.int (b*48271+x % 2147483647+7919*(c+1)))),⟨hb.h0,Int.emod_nonneg _ (by decide),Int.emod_lt_of_pos _ d0,by have:=hb.h2;omega,hb.hc⟩,?_⟩
    walk_at "ev"
    simp only [decide_eq_false hw,Bool.false_eq_true,if_false]
    walk_at "ev"
    simp only [mul_r s0,V2 s1,Yv d0]
    walk_at "ev"
    simp only [mul_r s0,V2 s1,Yv d0]
    walk_at "ev"
    simp only [mul_r s0,V2 s1,Yv d0]
    walk_at "ev"
  by_cases hi:c < (cs.length:Int)
  ·obtain ⟨i,hi0,e⟩:=Ze9 hb (m:=⟨Z4 a b c cs::g,l⟩) hi
   obtain ⟨a',b',c',o2,o3,k1,k2⟩:=key i hi0
   refine ⟨a',b',c',o2,o3,k1,?_⟩
   rw [←k2]
   simp only [ifS,Z3,Y0,Zi,Zm,cE,Yo,Jx,Z5,Jj,U7,W0,W3,Yi,Jo,JT,hz,if_true,Bool.false_eq_true,if_false,ite_tt,ite_ff,Vs,Zf,Za,Zb,JH,Vn,decide_eq_true hi,e,List.set_cons_zero,List.set_cons_succ]
  ·obtain ⟨a',b',c',o2,o3,k1,k2⟩:=key 0 (by decide)
   refine ⟨a',b',c',o2,o3,k1,?_⟩
   rw [←k2]
   simp only [ifS,Z3,Y0,Zi,Zm,cE,Yo,Jx,Z5,Jj,U7,W0,W3,Yi,Jo,JT,hz,if_true,Bool.false_eq_true,if_false,ite_tt,ite_ff,Vs,Zf,Za,Zb,JH,Vn,decide_eq_false hi,List.set_cons_zero,List.set_cons_succ,ZF]
 ·have hz':(a == 0)=false:=by simpa using hz
  refine ⟨a,b,c,none,none,hb,?_⟩
  simp only [ifS,Z3,Y0,cE,Yo,Z5,Jj,U7,Yi,Jo,JT,hz',Bool.false_eq_true,if_false,ite_ff,ZF]
def YG (cs:List PyData) (C:Cell):Prop:=∃a b c,qlM a b c cs∧C=Z4 a b c cs
/-- a draw below n leaves a number below n and a bag -/
theorem ZjW {n:Int} {cs:List PyData} {g:List Cell} {C:Cell} (hC:YG cs C) (h0:0 < n) (h1:n < 2 ^ 64) :
  ∃r C',0≤r∧r < n∧YG cs C'∧fnD 7 ZjT [.cell (.g 0),.p (.int n)] (C::g) = .ok (.p (.int r)) (C'::g):=by
 obtain ⟨a,b,c,hb,rfl⟩:=hC
 obtain ⟨a',b',c',o2,o3,k1,k2⟩:=ZjU (n:=n) (g:=g) (l:=[]) hb
 obtain ⟨r,a2,r0,r1,k3,k4⟩:=ZjV (g:=g) (l:=[]) (o2:=o2) (o3:=o3) k1 h0 h1
 refine ⟨r,_,r0,r1,⟨a2,b',c',k3,rfl⟩,?_⟩
 change fin (Zi ZcV takeT [some (.cell (.g 0)),some (.p (.int n)),none,none,none,none,none] ⟨Z4 a b c cs::g,[]⟩)=_
 unfold Zi
 rw [k2]
 exact k4
end L2.Dn
namespace L2.Dn
open PySem PySem.Spec PyProof.Rows L2
section
variable {g:D→Rho→Option Rho} {t:Rho→Store→Res Bool} {fe:FE} {ρ:Rho}
theorem ZdY {f:D→D} {p:D→Bool} {m:Store}:∀{ds:List D},(∀d∈ds,∃ρ1,g d ρ=some ρ1∧t ρ1 m = .ok (p d) m∧(p d=true→fe ρ1 m = .ok (f d) m))→lcM g t fe ρ ds m = .ok ((ds.filter p).map f) m
 | [],_=>rfl
 | d::ds,h=>by
  obtain ⟨ρ1,h1,h2,h3⟩:=h d (List.mem_cons_self ..)
  have ih:=ZdY (f:=f) (p:=p) (m:=m) (ds:=ds) fun x hx=>h x (List.mem_cons_of_mem _ hx)
  unfold lcM
  rw [h1]
  simp only [h2,noX,Z5]
  cases hp:p d with
  | true =>
   rw [hp] at h2
   simp only [h3 hp,if_true,noX,Z5,ih,List.filter_cons_of_pos hp,List.map_cons]
  | false=>simp only [Bool.false_eq_true,if_false,ih,List.filter_cons_of_neg (show ¬p d=true by rw [hp];exact Bool.false_ne_true)]
theorem Zhs {f:D→D} {m:Store} {ds:List D} (h:∀d∈ds,∃ρ1,g d ρ=some ρ1∧t ρ1 m = .ok true m∧fe ρ1 m = .ok (f d) m):lcM g t fe ρ ds m = .ok (ds.map f) m:=by
 have:=ZdY (g:=g) (t:=t) (fe:=fe) (ρ:=ρ) (f:=f) (p:=fun _=>true) (m:=m) (ds:=ds) fun d hd=>by
  obtain ⟨ρ1,h1,h2,h3⟩:=h d hd
  exact ⟨ρ1,h1,h2,fun _=>h3⟩
 rw [this,List.filter_eq_self.mpr fun _ _=>rfl]
end
theorem Ze4 (i:Int):0≤(if i < 0 then -i else i):=by split <;> omega
theorem Zfb (ns:List Int) (hl:ns.length≤63):∃cs C,YG cs C∧fnD 2 Za8 [nums ns] [] = .ok (.cell (.g 0)) [C]:=by
 have h1:slD .z (nums ns) none (some 63) ⟨[],[]⟩=some (.p (.list (ns.map .int)),⟨[],[]⟩):=by
  show some (Zh (cutD ((ns.map PyData.int).map D.p) none (some 63)),_)=_
  have:cutD ((ns.map PyData.int).map D.p) none (some 63)=(ns.map PyData.int).map D.p:=by
   unfold cutD
   have e1:HT.sIx ((ns.map PyData.int).map D.p).length 0 none=0:=rfl
   have e2:HT.sIx ((ns.map PyData.int).map D.p).length ((ns.map PyData.int).map D.p).length (some 63)=ns.length:=by
    simp only [List.length_map,HT.sIx]
    rw [if_neg (by decide)]
    have:(63:Int).toNat=63:=rfl
    omega
   rw [e1,e2,List.drop_zero,Nat.sub_zero,List.take_of_length_le (by simp)]
  rw [this,Wu]
 have h2:lcM (Ju 1) Ji (Zf JX (Za (vE 1) Zb)) [some (nums ns),none] ((ns.map PyData.int).map D.p) ⟨[],[]⟩ = .ok ((ns.map fun i=>PyData.int (if i < 0 then -i else i)).map D.p) ⟨[],[]⟩:=by
  have:=Zhs (g:=Ju 1) (t:=Ji) (fe:=Zf JX (Za (vE 1) Zb)) (ρ:=[some (nums ns),none]) (m:=⟨[],[]⟩) (ds:=(ns.map PyData.int).map D.p) (f:=fun d=>match d with | .p (.int i) => .p (.int (if i < 0 then -i else i)) | d=>d) fun d hd=>by
   obtain ⟨q,hq,rfl⟩:=List.mem_map.mp hd
   obtain ⟨i,_,rfl⟩:=List.mem_map.mp hq
   exact ⟨[some (nums ns),some (.p (.int i))],rfl,rfl,rfl⟩
  rw [this]
  simp only [List.map_map]
  rfl
 refine ⟨ns.map fun i=>PyData.int (if i < 0 then -i else i),_,⟨0,1234567891,0,⟨by decide,by decide,by decide,by decide,fun x hx=>?_⟩,rfl⟩,?_⟩
 ·simp only [List.mem_map] at hx
  obtain ⟨i,_,rfl⟩:=hx
  exact ⟨_,rfl,Ze4 i⟩
 ·change fin (Za8 [some (nums ns),none] ⟨[],[]⟩)=_
  have hs:((ns.map PyData.int).map D.p).length≤sizeLine:=by
   rw [sizeLine_eq]
   simp only [List.length_map]
   omega
  have h3:lcE .z [1] (Jh (slE (slD .z) (vE 0) noO (someO (cE (.int 63))))) (Ju 1) Ji (Zf JX (Za (vE 1) Zb)) [some (nums ns),none] ⟨[],[]⟩ = .ok (.p (.list (ns.map fun i=>PyData.int (if i < 0 then -i else i)))) ⟨[],[]⟩:=by
   simp only [lcE,Jh,slE,Yo,noO,someO,cE,Z5,h1,Yi,KY,Yp,List.set_cons_zero,List.set_cons_succ,if_pos hs,h2,ZV,Wu]
  simp only [Za8,retS,Zo,Za,cE,Zb,Z5,h3]
  rfl
end L2.Dn
namespace L2.Dn
open PySem PySem.Spec PyProof.Rows L2
section
variable {m:Store}
def cut {α:Type} (xs:List α) (lo hi:Option Int):List α:=(xs.drop (HT.sIx xs.length 0 lo)).take (HT.sIx xs.length xs.length hi - HT.sIx xs.length 0 lo)
theorem Zfs (ds:List PyData) (lo hi:Option Int):cutD (ds.map D.p) lo hi=(cut ds lo hi).map D.p:=by
 simp only [cutD,cut,List.length_map,List.map_take,List.map_drop]
theorem ZaS (ds:List PyData) (lo hi:Option Int):slD .z (.p (.list ds)) lo hi m=some (.p (.list (cut ds lo hi)),m):=by
 show some (Zh (cutD (ds.map D.p) lo hi),m)=_
 rw [Zfs,Wu]
theorem Ze5 {xs ys:List PyData} (h:xs.length+ys.length≤sizeLine):Zq .z (.p (.list xs)) (.p (.list ys)) m=some (.p (.list (xs++ys)),m):=by
 have:Zq .z (.p (.list xs)) (.p (.list ys)) m=match Vy .z (.p (.list xs)) (.p (.list ys)) m with
  | some r=>some r
  | none=>WQ (.p (.list xs)) (.p (.list ys)) m:=rfl
 rw [this]
 simp only [Vy,Ym,List.length_map,if_pos h,YW,←List.map_append,Wu]
end
theorem qwu {x:Str}:PyData.strOk x=true↔∀c∈x.cps.toList,c < 0x110000:=by
 obtain ⟨⟨l⟩⟩:=x
 simp [PyData.strOk]
end L2.Dn
namespace L2.Dn
open PySem PySem.Spec PyProof.Rows L2
structure Fit (d n:Nat) (p:PyData):Prop where
 sh:p.showable=true
 dp:p.depth≤d
 ln:p.shown.length≤n
theorem Fit.mono {d n d' n':Nat} {p:PyData} (h:Fit d n p) (hd:d≤d') (hn:n≤n'):Fit d' n' p:=⟨h.sh,Nat.le_trans h.dp hd,Nat.le_trans h.ln hn⟩
theorem Zhm:∀ts:List Str,(listText ts).length≤2+piled ts
 | []=>by decide
 | t::r=>by
  have h:=textFrom_length_pos r 1 (("[":Str)++(if (0:Nat) > 0 then ", " else "":String)++t) (Nat.succ_pos 0)
  have e:(("[":Str)++(if (0:Nat) > 0 then ", " else "":String)++t).length=1+t.length:=by
   rw [strLen_append,strLen_append];rfl
  have e2:(listText (t::r)).length=(textFrom 1 (("[":Str)++(if (0:Nat) > 0 then ", " else "":String)++t) r).length+1:=by
   show (textFrom 1 _ r++"]").length=_;rw [strLen_append];rfl
  rw [e2,h,e,piled_cons]
  omega
theorem Zft (ts:List Str):(dictText ts).length≤2+piled ts:=by
 unfold dictText;rw [strLen_append,strLen_append]
 have e1:(("{":Str)).length=1:=rfl
 have e3:(("}":Str)).length=1:=rfl
 rw [e1,e3]
 by_cases h:ts=[]
 ·subst h;decide
 ·have:=join_length_add ts h;omega
theorem ZjS (ts:List Str):(tupleText ts).length≤2+piled ts:=by
 unfold tupleText;rw [strLen_append,strLen_append]
 have e1:(("(":Str)).length=1:=rfl
 have e3:((if ts.length == 1 then ",)" else ")":String):Str).length≤2:=by split <;> decide
 rw [e1]
 by_cases h:ts=[]
 ·subst h;decide
 ·have:=join_length_add ts h;omega
theorem Zbx {d n:Nat}:∀{ps:List PyData},(∀p∈ps,Fit d n p)→PyData.showableAll ps=true∧PyData.depthAll ps≤d∧piled (PyData.shownAll ps)≤ps.length*(n+2)
 | [],_=>⟨rfl,Nat.zero_le _,Nat.le_of_eq (by rw [List.length_nil,Nat.zero_mul];rfl)⟩
 | p::ps,h=>by
  obtain ⟨k1,k2,k3⟩:=Zbx (ps:=ps) fun x hx=>h x (List.mem_cons_of_mem _ hx)
  have hp:=h p (List.mem_cons_self ..)
  refine ⟨by simp only [PyData.showableAll,hp.sh,k1,Bool.and_self],?_,?_⟩
  ·simp only [PyData.depthAll]
   have:=hp.dp
   omega
  ·simp only [PyData.shownAll,piled_cons,List.length_cons,Nat.add_mul,Nat.one_mul]
   have:=hp.ln
   omega
theorem Fit.list {d n k:Nat} {ps:List PyData} (h:∀p∈ps,Fit d n p) (hk:ps.length≤k):Fit (d+1) (2+k*(n+2)) (.list ps):=by
 obtain ⟨k1,k2,k3⟩:=Zbx h
 refine ⟨by simp only [PyData.showable,k1],by simp only [PyData.depth];omega,?_⟩
 have h1:=Zhm (PyData.shownAll ps)
 have h2:=Nat.mul_le_mul_right (n+2) hk
 simp only [PyData.shown]
 omega
theorem Fit.tuple {d n k:Nat} {ps:List PyData} (h:∀p∈ps,Fit d n p) (hk:ps.length≤k):Fit (d+1) (2+k*(n+2)) (.tuple ps):=by
 obtain ⟨k1,k2,k3⟩:=Zbx h
 refine ⟨by simp only [PyData.showable,k1],by simp only [PyData.depth];omega,?_⟩
 have h1:=ZjS (PyData.shownAll ps)
 have h2:=Nat.mul_le_mul_right (n+2) hk
 simp only [PyData.shown]
 omega
theorem ZdB {d n:Nat}:∀{kv:List (PyData×PyData)},(∀q∈kv,Fit d n q.1∧Fit d n q.2)→PyData.showableKv kv=true∧PyData.depthKv kv≤d∧piled (PyData.shownKv kv)≤kv.length*(2*n+4)
 | [],_=>⟨rfl,Nat.zero_le _,Nat.le_of_eq (by rw [List.length_nil,Nat.zero_mul];rfl)⟩
 | (a,b)::kv,h=>by
  obtain ⟨k1,k2,k3⟩:=ZdB (kv:=kv) fun x hx=>h x (List.mem_cons_of_mem _ hx)
  obtain ⟨h1,h2⟩:=h (a,b) (List.mem_cons_self ..)
  have a2:=h1.dp;have a3:=h1.sh;have a4:=h1.ln;have b2:=h2.dp;have b3:=h2.sh;have b4:=h2.ln
  dsimp only at a2 a3 a4 b2 b3 b4
  refine ⟨by simp only [PyData.showableKv,a3,b3,k1,Bool.and_self],?_,?_⟩
  ·simp only [PyData.depthKv]
   omega
  ·simp only [PyData.shownKv,piled_cons,List.length_cons,Nat.add_mul,Nat.one_mul]
   rw [strLen_append,strLen_append]
   have:((": ":String):Str).length=2:=rfl
   rw [this]
   omega
theorem Fit.dict {d n k:Nat} {kv:List (PyData×PyData)} (h:∀q∈kv,Fit d n q.1∧Fit d n q.2) (hk:kv.length≤k):Fit (d+1) (2+k*(2*n+4)) (.dict kv):=by
 obtain ⟨k1,k2,k3⟩:=ZdB h
 refine ⟨by simp only [PyData.showable,k1],by simp only [PyData.depth];omega,?_⟩
 have h1:=Zft (PyData.shownKv kv)
 have h2:=Nat.mul_le_mul_right (2*n+4) hk
 simp only [PyData.shown]
 omega
theorem Fit.int {k:Nat} {i:Int} (hk:0 < k) (hk2:k≤500) (h:i.natAbs < 10 ^ k):Fit 0 (k+1) (.int i):=by
 refine ⟨?_,Nat.le_refl _,?_⟩
 ·simp only [PyData.showable,decide_eq_true_eq]
  by_cases h0:i.natAbs=0
  ·rw [h0];decide
  ·have h2:i.natAbs < 2 ^ 1920:=Nat.lt_of_lt_of_le h (Nat.le_trans (Nat.pow_le_pow_right (by decide) hk2) (by decide +kernel))
   exact (Nat.log2_lt h0).mpr h2
 ·have e:=int_text_length_le10 hk h
  show (Str.ofString (toString i)).length≤_
  rw [PySem.ofString_length]
  exact e
theorem Fit.str {x:Str} {k:Nat} (h:PyData.strOk x=true) (hk:x.length≤k):Fit 0 (10*k+2) (.str x):=by
 refine ⟨rfl,Nat.le_refl _,?_⟩
 have:=StrLaws.reprText_len x fun c hc=>Nat.lt_trans (qwu.mp h c hc) (by decide)
 simp only [PyData.shown]
 omega
theorem Fit.none:Fit 0 4 .none:=⟨rfl,Nat.le_refl _,by decide⟩
theorem Fit.bool (b:Bool):Fit 0 5 (.bool b):=⟨rfl,Nat.le_refl _,by cases b <;> decide⟩
theorem ZiH {d n:Nat} {p:PyData} {m:Store} {x:D} (e:whole m x=some p) (h:Fit d n p) (hd:d≤60) (hn:n≤16777216):V4 [x] m=some (.p (.str p.shown),m):=by
 have h2:p.shown.length≤sizeLine:=by rw [sizeLine_eq];exact Nat.le_trans h.ln (by omega)
 have h3:=Nat.le_trans h.dp hd
 simp only [V4,e,if_pos (And.intro h.sh (And.intro h2 h3))]
mutual
def Wf:PyData→Bool
 | .none=>true
 | .bool _=>false
 | .int _=>true
 | .str x=>PyData.strOk x
 | .list xs=>Wg xs
 | .tuple xs=>Wg xs
 | .dict _=>false
def Wg:List PyData→Bool
 | []=>true
 | x::xs=>Wf x && Wg xs
end
theorem Zbz:∀{ps:List PyData},(∀p∈ps,Wf p=true)→Wg ps=true
 | [],_=>rfl
 | p::ps,h=>by
  simp only [Wg,h p (List.mem_cons_self ..),Zbz (fun x hx=>h x (List.mem_cons_of_mem _ hx)),Bool.and_self]
theorem Zf2 {neg b:Bool} {x y:D} {p q:PyData} {m:Store} (ex:whole m x=some p) (ey:whole m y=some q) (hp:SeqAt.shaped p=true) (hq:SeqAt.shaped q=true) (hb:PyData.eqv p q=b):eqG neg x y m=some (.p (.bool (if neg then !b else b)),m):=by
 subst hb
 have e2:eqP neg x y m=some (.p (.bool (if neg then !PyData.eqv p q else PyData.eqv p q)),m):=by
  simp only [eqP,ex,ey,if_pos (And.intro hp hq)]
 unfold eqG ZX
 split
 ·rename_i r hr
  unfold eqS at hr
  split at hr
  ·cases ex
   cases ey
   rw [←hr]
   simp [PyData.eqv]
  ·cases hr
 ·exact e2
end L2.Dn
namespace L2.Dn
open PySem PySem.Spec PyProof.Rows L2
local macro_rules | `(tactic| walk_at "ev") => `(tactic| try simp only [Zi, ifS, Zm, Yk, Yn, Y8, retS, Vh, ZF, Z3, Y0, Zf, Za, Zb, cE, Yo, Jx, Z5, Jj, Yi, JT, Vs, WD, Zbw, ZeD, List.set_cons_zero, List.set_cons_succ,
 U7,Zc4,W0,W3,Zc7,Zc8,Zc9,Zda,Zc3,U6,Zer,ite_tt,ite_ff,U5,WF,Vn,Ws,Wi,Wh,Jo,Wj,JH,Bool.false_eq_true,if_false,if_true])
end L2.Dn
namespace L2.Dn
open PySem PySem.Spec PyProof.Rows L2
def Ev {α:Type} (r:Res α) (P:α→Store→Prop) (X:Exn→Store→Prop):Prop:=match r with
 | .ok a m=>P a m
 | .exc x m=>X x m
 | .stuck=>False
def Es (r:Ib) (N:Rho→Store→Prop) (R:D→Store→Prop) (X:Exn→Rho→Store→Prop):Prop:=match r with
 | .nx ρ m=>N ρ m
 | .rt d m=>R d m
 | .exc x ρ m=>X x ρ m
 | _=>False
def Eg (r:RG) (P:D→List Cell→Prop) (X:Exn→List Cell→Prop):Prop:=match r with
 | .ok d g=>P d g
 | .exc x g=>X x g
 | .stuck=>False
abbrev nX:Exn→Store→Prop:=fun _ _=>False
abbrev nXg:Exn→List Cell→Prop:=fun _ _=>False
section
variable {α β:Type} {m:Store} {ρ:Rho} {N:Rho→Store→Prop} {R:D→Store→Prop} {X:Exn→Store→Prop} {Y:Exn→Rho→Store→Prop} {Z:Exn→List Cell→Prop}
theorem KH {P:α→Store→Prop} {a:α}:Ev (.ok a m) P X↔P a m:=Iff.rfl
theorem Zbs {P:α→Store→Prop} {x:Exn}:Ev (.exc x m) P X↔X x m:=Iff.rfl
theorem JB {P:β→Store→Prop} {r:Res α} {k:α→Store→Res β}:Ev (r.bind k) P X↔Ev r (fun a m=>Ev (k a m) P X) X:=by cases r <;> exact Iff.rfl
theorem Zbt {P:D→Store→Prop} {d:D}:Ev (lift (some (d,m))) P X↔P d m:=Iff.rfl
theorem Zdw {P:α→Store→Prop} {r:Res α}:Ev (noX r) P X↔Ev r P nX:=by cases r <;> exact Iff.rfl
theorem Zbo {r:Res α} {k:α→Store→Ib}:Es (r.M5 ρ k) N R Y↔Ev r (fun a m=>Es (k a m) N R Y) (fun x m=>Y x ρ m):=by cases r <;> exact Iff.rfl
theorem KD {r:Ib} {k:FS}:Es (r.seq k) N R Y↔Es r (fun ρ m=>Es (k ρ m) N R Y) R Y:=by cases r <;> exact Iff.rfl
theorem Zbq:Es (.nx ρ m) N R Y↔N ρ m:=Iff.rfl
theorem Zbr {d:D}:Es (.rt d m) N R Y↔R d m:=Iff.rfl
theorem Zbp {x:Exn}:Es (.exc x ρ m) N R Y↔Y x ρ m:=Iff.rfl
theorem Zbl {P:D→List Cell→Prop} {r:Ib}:Eg (fin r) P Z↔Es r (fun _ m=>P (.p .none) m.g) (fun d m=>nl d=true∧P d m.g) (fun x _ m=>nls (x.fs.map (·.2))=true∧Z x m.g):=by
 cases r with
 | rt d m =>
  simp only [fin,Es]
  cases nl d <;> simp [Eg]
 | exc x ρ m =>
  simp only [fin,Es]
  cases nls (x.fs.map (·.2)) <;> simp [Eg]
 | _=>exact Iff.rfl
theorem ev_call {P:D→Store→Prop} {den:Den} {ds:List D} {g l:List Cell}:Ev (YL den ds ⟨g,l⟩) P X↔nls ds=true∧Eg (den ds g) (fun d g=>P d ⟨g,l⟩) (fun x g=>X x ⟨g,l⟩):=by
 unfold YL
 cases nls ds with
 | false=>simp [Ev]
 | true =>
  simp only [if_true,true_and]
  cases den ds g <;> exact Iff.rfl
theorem Zbm {P:D→List Cell→Prop} {d:D} {g:List Cell}:Eg (.ok d g) P Z↔P d g:=Iff.rfl
theorem Eg.get {r:RG} {P:D→List Cell→Prop} (h:Eg r P nXg):∃d g,r = .ok d g∧P d g:=by
 cases r with
 | ok d g=>exact ⟨d,g,rfl,h⟩
 | exc x g=>exact h.elim
 | stuck=>exact h.elim
theorem Eg.mono {r:RG} {P Q:D→List Cell→Prop} {Z Z':Exn→List Cell→Prop} (h:Eg r P Z) (k:∀d g,P d g→Q d g) (kx:∀x g,Z x g→Z' x g):Eg r Q Z':=by
 cases r with
 | ok d g=>exact k _ _ h
 | exc x g=>exact kx _ _ h
 | stuck=>exact h
theorem Eg.of {r:RG} {P:D→List Cell→Prop} {d:D} {g:List Cell} (e:r = .ok d g) (h:P d g):Eg r P Z:=by rw [e];exact h
theorem Ev.mono {r:Res α} {P Q:α→Store→Prop} {X X':Exn→Store→Prop} (h:Ev r P X) (k:∀d g,P d g→Q d g) (kx:∀x g,X x g→X' x g):Ev r Q X':=by
 cases r with
 | ok d g=>exact k _ _ h
 | exc x g=>exact kx _ _ h
 | stuck=>exact h
theorem Ev.get {r:Res α} {P:α→Store→Prop} (h:Ev r P nX):∃d g,r = .ok d g∧P d g:=by
 cases r with
 | ok d g=>exact ⟨d,g,rfl,h⟩
 | exc x g=>exact h.elim
 | stuck=>exact h.elim
theorem Ev.of {r:Res α} {P:α→Store→Prop} {d:α} {g:Store} (e:r = .ok d g) (h:P d g):Ev r P X:=by rw [e];exact h
theorem Es.mono {r:Ib} {N':Rho→Store→Prop} {R':D→Store→Prop} {Y':Exn→Rho→Store→Prop} (h:Es r N R Y) (kn:∀ρ m,N ρ m→N' ρ m) (kr:∀d m,R d m→R' d m) (kx:∀x ρ m,Y x ρ m→Y' x ρ m):Es r N' R' Y':=by
 cases r with
 | nx ρ m=>exact kn _ _ h
 | rt d m=>exact kr _ _ h
 | exc x ρ m=>exact kx _ _ _ h
 | bk ρ m=>exact h
 | ct ρ m=>exact h
 | stuck=>exact h
def isB (d:D) (k:Bool→Prop):Prop:=match d with
 | .p (.bool b)=>k b
 | _=>False
theorem ZbI {b:Bool} {k:Bool→Prop}:isB (.p (.bool b)) k↔k b:=Iff.rfl
theorem Zbu {P:Bool→Store→Prop} {r:Res D}:Ev (WK r) P X↔Ev r (fun d m=>isB d fun b=>P b m) X:=by
 cases r with
 | ok d m =>
  cases d with
  | p q=>cases q <;> exact Iff.rfl
  | _=>exact Iff.rfl
 | exc x m=>exact Iff.rfl
 | stuck=>exact Iff.rfl
theorem Zch {fl:FI} {ρ:Rho} {m:Store}:JR fl ρ m=(fl ρ m).bind ZaP:=rfl
theorem Zci {j:Int} {m:Store}:ZaP [.p (.int j)] m=Wz j m:=by cases j <;> rfl
theorem KJ {P:List D→Store→Prop} {j:Int} (h0:0≤j) (h1:j < 1000000) (h:P (YJ 0 j.toNat) m):Ev (Wz j m) P X:=by
 unfold Wz
 rw [if_pos ⟨by omega,by omega⟩]
 exact h
theorem ZiJ (n:Nat):(YJ 0 n).length=n:=by simp [YJ]
theorem ZiI {n j:Nat} {d:D} (h:(YJ 0 n)[j]?=some d):j < n∧d = .p (.int (j:Int)):=by
 have hl:=(List.getElem?_eq_some_iff.mp h).1
 rw [ZiJ] at hl
 refine ⟨hl,?_⟩
 simp only [YJ,List.getElem?_map,List.getElem?_range hl,Option.map_some,Option.some.injEq] at h
 rw [←h]
 simp
end
theorem lsz {n:Nat} (h:n≤100000):n≤sizeLine:=by rw [sizeLine_eq];omega
theorem Zb7:nls []=true:=rfl
theorem Zb8 {d:PyData} {r:List D}:nls (.p d::r)=nls r:=rfl
theorem Zb6 {i:Nat} {r:List D}:nls (.cell (.g i)::r)=nls r:=rfl
theorem Zb5 {x:Str} {r:List D}:nls (.fn x::r)=nls r:=rfl
theorem Zb4 {d:PyData}:nl (.p d)=true:=rfl
theorem Zb3 {i:Nat}:nl (.cell (.g i))=true:=rfl
theorem ZaU {b:Bool} {m:Store}:Jw (.p (.bool b)) m=some b:=rfl
theorem Zdx {α:Type} {r:Res α} {n:Nat} {P:α→Store→Prop} {X:Exn→Store→Prop} (h:n≤100000) (k:Ev r P X):Ev (if n≤sizeLine then r else .stuck) P X:=by
 rw [if_pos (lsz h)]
 exact k
theorem mk0:Yj [] = .p (.tuple []):=rfl
theorem mk1 {a:PyData}:Yj [.p a] = .p (.tuple [a]):=rfl
theorem mk2 {a b:PyData}:Yj [.p a,.p b] = .p (.tuple [a,b]):=rfl
theorem mk3 {a b c:PyData}:Yj [.p a,.p b,.p c] = .p (.tuple [a,b,c]):=rfl
theorem mk4 {a b c d:PyData}:Yj [.p a,.p b,.p c,.p d] = .p (.tuple [a,b,c,d]):=rfl
theorem ml0:Zh [] = .p (.list []):=rfl
theorem ml1 {a:PyData}:Zh [.p a] = .p (.list [a]):=rfl
theorem ml2 {a b:PyData}:Zh [.p a,.p b] = .p (.list [a,b]):=rfl
theorem ml3 {a b c:PyData}:Zh [.p a,.p b,.p c] = .p (.list [a,b,c]):=rfl
theorem ml4 {a b c d:PyData}:Zh [.p a,.p b,.p c,.p d] = .p (.list [a,b,c,d]):=rfl
theorem ml5 {a b c d e:PyData}:Zh [.p a,.p b,.p c,.p d,.p e] = .p (.list [a,b,c,d,e]):=rfl
theorem ml6 {a b c d e f:PyData}:Zh [.p a,.p b,.p c,.p d,.p e,.p f] = .p (.list [a,b,c,d,e,f]):=rfl
theorem ZcX {ds:List PyData}:Yw (.p (.tuple ds))=some (ds.map D.p):=rfl
theorem ZcY {ds:List D}:Yw (.tup ds)=some ds:=rfl
theorem ZbK {x:Str} {m:Store}:JF "str" (.p (.str x)) m=true:=rfl
theorem ZbJ {ds:List PyData} {m:Store}:JF "list" (.p (.list ds)) m=true:=rfl
theorem YT {xs:List D} {m:Store}:ZV .z xs m = .ok (Zh xs) m:=rfl
theorem sz1:(0+1≤sizeLine)=True:=eq_true (lsz (by decide))
theorem sz2:(0+1+1≤sizeLine)=True:=eq_true (lsz (by decide))
theorem sz3:(0+1+1+1≤sizeLine)=True:=eq_true (lsz (by decide))
theorem sz4:(0+1+1+1+1≤sizeLine)=True:=eq_true (lsz (by decide))
theorem sz5:(0+1+1+1+1+1≤sizeLine)=True:=eq_true (lsz (by decide))
theorem sz6:(0+1+1+1+1+1+1≤sizeLine)=True:=eq_true (lsz (by decide))
theorem sz7:(0+1+1+1+1+1+1+1≤sizeLine)=True:=eq_true (lsz (by decide))
theorem sz8:(0+1+1+1+1+1+1+1+1≤sizeLine)=True:=eq_true (lsz (by decide))
theorem sz9:(0+1+1+1+1+1+1+1+1+1≤sizeLine)=True:=eq_true (lsz (by decide))
theorem ZcG:(0+1+1+1+1+1+1+1+1+1+1≤sizeLine)=True:=eq_true (lsz (by decide))
theorem ZcH:(0+1+1+1+1+1+1+1+1+1+1+1≤sizeLine)=True:=eq_true (lsz (by decide))
theorem ZcI:(0+1+1+1+1+1+1+1+1+1+1+1+1≤sizeLine)=True:=eq_true (lsz (by decide))
theorem ZcJ:(0+1+1+1+1+1+1+1+1+1+1+1+1+1≤sizeLine)=True:=eq_true (lsz (by decide))
theorem ZcK:(0+1+1+1+1+1+1+1+1+1+1+1+1+1+1≤sizeLine)=True:=eq_true (lsz (by decide))
theorem ZcL:(0+1+1+1+1+1+1+1+1+1+1+1+1+1+1+1≤sizeLine)=True:=eq_true (lsz (by decide))
theorem ZcM:(0+1+1+1+1+1+1+1+1+1+1+1+1+1+1+1+1≤sizeLine)=True:=eq_true (lsz (by decide))
theorem ZcN:(0+1+1+1+1+1+1+1+1+1+1+1+1+1+1+1+1+1≤sizeLine)=True:=eq_true (lsz (by decide))
theorem ZcO:(0+1+1+1+1+1+1+1+1+1+1+1+1+1+1+1+1+1+1≤sizeLine)=True:=eq_true (lsz (by decide))
theorem ZcP:(0+1+1+1+1+1+1+1+1+1+1+1+1+1+1+1+1+1+1+1≤sizeLine)=True:=eq_true (lsz (by decide))
theorem ZcQ:(0+1+1+1+1+1+1+1+1+1+1+1+1+1+1+1+1+1+1+1+1≤sizeLine)=True:=eq_true (lsz (by decide))
theorem ZcR:(0+1+1+1+1+1+1+1+1+1+1+1+1+1+1+1+1+1+1+1+1+1≤sizeLine)=True:=eq_true (lsz (by decide))
theorem ZcS:(0+1+1+1+1+1+1+1+1+1+1+1+1+1+1+1+1+1+1+1+1+1+1≤sizeLine)=True:=eq_true (lsz (by decide))
theorem ZcT:(0+1+1+1+1+1+1+1+1+1+1+1+1+1+1+1+1+1+1+1+1+1+1+1≤sizeLine)=True:=eq_true (lsz (by decide))
theorem ZcU:(0+1+1+1+1+1+1+1+1+1+1+1+1+1+1+1+1+1+1+1+1+1+1+1+1≤sizeLine)=True:=eq_true (lsz (by decide))
end L2.Dn
namespace L2.Dn
open PySem PySem.Spec PyProof.Rows L2
def sd (kv:List (Str×PyData)):PyData := .dict (kv.map fun q=>(.str q.1,q.2))
/-- the entries as they are told -/
def sk (kv:List (Str×PyData)):List (PyData×D):=kv.map fun q=>(.str q.1,.p q.2)
def putS {α:Type} (kv:List (Str×α)) (n:Str) (v:α):List (Str×α):=if n∈kv.map (·.1) then kv.map (fun q=>if q.1=n then (q.1,v) else q) else kv++[(n,v)]
section
variable {kv:List (Str×PyData)} {n:Str} {v:PyData} {m:Store} {d:D}
theorem ZiV:(sk kv).length=kv.length:=by simp [sk]
theorem Zb2:nk (.str n)=some (.text n):=rfl
theorem Zhj:YB (.p (.str n))=some (.text n):=rfl
theorem Zev:∀kv:List (Str×PyData),Z8 ((sk kv).map (·.2))=some (kv.map (·.2))
 | []=>rfl
 | q::kv=>by
  have:=Zev kv
  simp only [sk,List.map_cons,Z8] at this ⊢
  rw [this]
theorem ZhM:VP (sk kv) = .p (sd kv):=by
 unfold VP
 rw [Zev]
 show D.p (.dict _)=_
 congr 2
 induction kv with
 | nil=>rfl
 | cons q kv ih=>simp only [sk,List.map_cons,List.zip_cons_cons] at ih ⊢;rw [ih]
theorem ZbC:ZdF (.dct (sk kv))=some (.p (sd kv)):=by simp only [ZdF,ZhM]
theorem ZiU:(sk kv).map (fun q=>nk q.1)=kv.map fun q=>some (.text q.1):=by simp [sk,Function.comp_def,Zb2]
theorem ZiE:putD (sk kv) (.str n) (.text n) (.p v)=sk (putS kv n v):=by
 unfold putD putS
 rw [ZiU]
 by_cases h:n∈kv.map (·.1)
 ·have h2:some (NestedKey.text n)∈kv.map (fun q=>some (NestedKey.text q.1)):=by
   obtain ⟨q,hq,e⟩:=List.mem_map.mp h
   exact List.mem_map.mpr ⟨q,hq,by rw [e]⟩
  rw [if_pos h,if_pos h2]
  simp only [sk,List.map_map]
  apply List.map_congr_left
  intro q _
  simp only [Function.comp]
  by_cases e:q.1=n
  ·rw [if_pos e,if_pos (by rw [Zb2,e])]
  ·rw [if_neg e,if_neg (by rw [Zb2];intro z;cases z;exact e rfl)]
 ·have h2:¬some (NestedKey.text n)∈kv.map (fun q=>some (NestedKey.text q.1)):=by
   intro z
   obtain ⟨q,hq,e⟩:=List.mem_map.mp z
   cases e
   exact h (List.mem_map.mpr ⟨q,hq,rfl⟩)
  rw [if_neg h,if_neg h2]
  simp [sk]
theorem ZiR {i:Ix} (h:m.at_ i=some (.dct (sk kv))) (hl:kv.length < 100000):setG (.cell i) (.p (.str n)) (.p v) m=some (m.set (.dct (sk (putS kv n v))) i):=by
 have e1:Y6 (.cell i) (.p (.str n)) (.p v) m=none:=by
  simp only [Y6]
 have e2:Vt (.cell i) (.p (.str n)) (.p v) m=some (m.set (.dct (sk (putS kv n v))) i):=by
  simp only [Vt,h,Zhj,ZiE,Zef,and_true]
  rw [if_pos (by rw [ZiV,sizeLine_eq];omega)]
 unfold setG
 rw [e1]
 exact e2
theorem ZiD {α:Type} {kv:List (Str×α)} {n:Str} {v:α} {q:Str×α} (h:q∈putS kv n v):q∈kv∨q=(n,v):=by
 unfold putS at h
 split at h
 ·obtain ⟨p,hp,e⟩:=List.mem_map.mp h
  split at e
  ·rename_i hn
   right
   rw [←e,hn]
  ·left
   rw [←e]
   exact hp
 ·rcases List.mem_append.mp h with h | h
  ·exact .inl h
  ·exact .inr (List.mem_singleton.mp h)
theorem ZiC {α:Type} (kv:List (Str×α)) (n:Str) (v:α):(putS kv n v).length≤kv.length+1∧1≤(putS kv n v).length∧kv.length≤(putS kv n v).length:=by
 unfold putS
 split
 ·rename_i h
  obtain ⟨q,hq,_⟩:=List.mem_map.mp h
  have:=List.length_pos_of_mem hq
  rw [List.length_map]
  omega
 ·rw [List.length_append,List.length_singleton]
  omega
end
theorem sn1:(1≤sizeLine)=True:=eq_true (lsz (by decide))
theorem sn2:(2≤sizeLine)=True:=eq_true (lsz (by decide))
theorem sn3:(3≤sizeLine)=True:=eq_true (lsz (by decide))
theorem sn4:(4≤sizeLine)=True:=eq_true (lsz (by decide))
theorem sn5:(5≤sizeLine)=True:=eq_true (lsz (by decide))
theorem sn6:(6≤sizeLine)=True:=eq_true (lsz (by decide))
theorem sn7:(7≤sizeLine)=True:=eq_true (lsz (by decide))
theorem sn8:(8≤sizeLine)=True:=eq_true (lsz (by decide))
theorem sn9:(9≤sizeLine)=True:=eq_true (lsz (by decide))
theorem Zcq:(10≤sizeLine)=True:=eq_true (lsz (by decide))
theorem Zcr:(11≤sizeLine)=True:=eq_true (lsz (by decide))
theorem Zcs:(12≤sizeLine)=True:=eq_true (lsz (by decide))
theorem Zct:(13≤sizeLine)=True:=eq_true (lsz (by decide))
theorem Zcu:(14≤sizeLine)=True:=eq_true (lsz (by decide))
theorem Zcv:(15≤sizeLine)=True:=eq_true (lsz (by decide))
theorem Zcw:(16≤sizeLine)=True:=eq_true (lsz (by decide))
theorem Zcx:(17≤sizeLine)=True:=eq_true (lsz (by decide))
theorem Zcy:(18≤sizeLine)=True:=eq_true (lsz (by decide))
theorem Zcz:(19≤sizeLine)=True:=eq_true (lsz (by decide))
theorem ZcA:(20≤sizeLine)=True:=eq_true (lsz (by decide))
theorem ZcB:(21≤sizeLine)=True:=eq_true (lsz (by decide))
theorem ZcC:(22≤sizeLine)=True:=eq_true (lsz (by decide))
theorem ZcD:(23≤sizeLine)=True:=eq_true (lsz (by decide))
theorem ZcE:(24≤sizeLine)=True:=eq_true (lsz (by decide))
theorem Zbc {ρ:Rho} {g l:List Cell}:Zdh .l ρ ⟨g,l⟩ = .ok (.cell (.l l.length)) ⟨g,l++[.dct []]⟩:=rfl
theorem Zbd {ρ:Rho} {m:Store}:Zdh .z ρ m = .ok (.p (.dict [])) m:=rfl
theorem Zb0 {g l:List Cell}:ZV .l [] ⟨g,l⟩ = .ok (.cell (.l l.length)) ⟨g,l++[.lst []]⟩:=rfl
theorem ZbZ {g l:List Cell}:ZV .g [] ⟨g,l⟩ = .ok (.cell (.g g.length)) ⟨g++[.lst []],l⟩:=rfl
theorem Za5 {g l:List Cell} {x:Cell}:(⟨g,x::l⟩:Store).at_ (.l 0)=some x:=rfl
theorem Za6 {g l:List Cell} {x y:Cell}:(⟨g,x::y::l⟩:Store).at_ (.l 1)=some y:=rfl
theorem Za7 {g l:List Cell} {x y z:Cell}:(⟨g,x::y::z::l⟩:Store).at_ (.l 2)=some z:=rfl
theorem Zcl {g l:List Cell} {x x':Cell}:(⟨g,x::l⟩:Store).set x' (.l 0)=⟨g,x'::l⟩:=rfl
theorem Zcm {g l:List Cell} {x y y':Cell}:(⟨g,x::y::l⟩:Store).set y' (.l 1)=⟨g,x::y'::l⟩:=rfl
theorem Zcn {g l:List Cell} {x y z z':Cell}:(⟨g,x::y::z::l⟩:Store).set z' (.l 2)=⟨g,x::y::z'::l⟩:=rfl
theorem Ze7 {i:Ix} {xs:List D} {d:PyData} {m:Store} (h:m.at_ i=some (.lst xs)) (hl:xs.length < 100000):VB (.cell i) [.p d] m=some (.p .none,m.set (.lst (xs++[.p d])) i):=by
 simp only [VB,h]
 rw [if_pos ⟨by rw [sizeLine_eq];omega,Zef⟩]
end L2.Dn
namespace L2.Dn
open PySem PySem.Spec PyProof.Rows L2
section
variable {κ α:Type} [BEq κ] [LawfulBEq κ] [DecidableEq κ]
def ZaM (kv:List (κ×α)) (n:κ) (v:α):List (κ×α):=if n∈kv.map (·.1) then kv.map (fun q=>if q.1=n then (q.1,v) else q) else kv++[(n,v)]
end
/-- keys that are data of their own -/
structure qlO (κ:Type) where
 kd:κ→PyData
 kn:κ→NestedKey
 nk:∀k,nk (kd k)=some (kn k)
 dp:∀k,(kn k).depth≤8
 inj:∀a b,kn a=kn b→a=b
section
variable {κ α:Type} [BEq κ] [LawfulBEq κ] [DecidableEq κ] (M:qlO κ) (f:α→D)
def qlO.kv (l:List (κ×α)):List (PyData×D):=l.map fun q=>(M.kd q.1,f q.2)
theorem qlO.len (l:List (κ×α)):(M.kv f l).length=l.length:=by simp [qlO.kv]
theorem qlO.key (k:κ):YB (.p (M.kd k))=some (M.kn k):=by simp only [YB,M.nk,if_pos (M.dp k)]
theorem qlO.lk (k:κ):∀l:List (κ×α),lkD (M.kv f l) (M.kn k)=(l.lookup k).map f
 | []=>rfl
 | q::l=>by
  have ih:=qlO.lk k l
  unfold lkD qlO.kv at ih ⊢
  rw [List.map_cons,List.find?_cons]
  show _=(List.lookup k ((q.1,q.2)::l)).map f
  rw [List.lookup_cons]
  by_cases h:q.1=k
  ·have e:(k == q.1)=true:=by simp [h]
   rw [e]
   simp [M.nk,h]
  ·have e:(k == q.1)=false:=beq_eq_false_iff_ne.mpr fun z=>h z.symm
   have e2:decide (Dn.nk (M.kd q.1)=some (M.kn k))=false:=decide_eq_false (by rw [M.nk];intro z;exact h (M.inj _ _ (Option.some.inj z)))
   rw [e,e2]
   exact ih
theorem qlO.put (k:κ) (v:α) (l:List (κ×α)):putD (M.kv f l) (M.kd k) (M.kn k) (f v)=M.kv f (ZaM l k v):=by
 have e0:(M.kv f l).map (fun q=>Dn.nk q.1)=l.map fun q=>some (M.kn q.1):=by simp [qlO.kv,Function.comp_def,M.nk]
 unfold putD ZaM
 rw [e0]
 by_cases h:k∈l.map (·.1)
 ·have h2:some (M.kn k)∈l.map (fun q=>some (M.kn q.1)):=by
   obtain ⟨q,hq,e⟩:=List.mem_map.mp h
   exact List.mem_map.mpr ⟨q,hq,by rw [e]⟩
  rw [if_pos h,if_pos h2]
  simp only [qlO.kv,List.map_map]
  apply List.map_congr_left
  intro q _
  simp only [Function.comp]
  by_cases e:q.1=k
  ·rw [if_pos e,if_pos (by rw [M.nk,e])]
  ·rw [if_neg e,if_neg (by rw [M.nk];intro z;exact e (M.inj _ _ (Option.some.inj z)))]
 ·have h2:¬some (M.kn k)∈l.map (fun q=>some (M.kn q.1)):=by
   intro z
   obtain ⟨q,hq,e⟩:=List.mem_map.mp z
   exact h (List.mem_map.mpr ⟨q,hq,M.inj _ _ (Option.some.inj e)⟩)
  rw [if_neg h,if_neg h2]
  simp [qlO.kv]
variable {M f} {m:Store} {i:Ix} {l:List (κ×α)} {k:κ} {v:α}
theorem Zfw {kvs:List (PyData×D)} (h:m.at_ i=some (.dct kvs)):YH (.cell i) m=some kvs:=by simp only [YH,Kf,h]
theorem qlO.set {ks:List PyData} (hk:M.kd k = .tuple ks) (h:m.at_ i=some (.dct (M.kv f l))) (hl:l.length < 100000) (ok:okIn (f v) i=true):setG (.cell i) (.p (M.kd k)) (f v) m=some (m.set (.dct (M.kv f (ZaM l k v))) i):=by
 have e1:Y6 (.cell i) (.p (M.kd k)) (f v) m=none:=by
  rw [hk]
  simp only [Y6]
 have e2:Vt (.cell i) (.p (M.kd k)) (f v) m=some (m.set (.dct (M.kv f (ZaM l k v))) i):=by
  simp only [Vt,h,M.key,M.put,ok,and_true]
  rw [if_pos (by rw [M.len,sizeLine_eq];omega)]
 unfold setG
 rw [e1]
 exact e2
end
end L2.Dn
namespace L2.Dn
open PySem PySem.Spec PyProof.Rows L2
section
variable {m:Store} {ρ:Rho} {N:Rho→Store→Prop} {R:D→Store→Prop} {X:Exn→Store→Prop} {Y:Exn→Rho→Store→Prop} {T:Store→Prop}
theorem We {g:FG} {body:FS} (I:Nat→Rho→Store→Prop) {ds:List D} {ρ:Rho} {m:Store} (h0:I 0 ρ m) (hT:∀j ρ m,I j ρ m→T m) (hs:∀j d,ds[j]?=some d→∀ρ m,I j ρ m→Es (g d ρ m) (fun ρ m=>Es (body ρ m) (I (j+1)) R Y) R Y) (hn:∀ρ m,I ds.length ρ m→N ρ m):Es (Yc T g body ds ρ m) N R Y:=by
 have key:∀(es:List D) (k:Nat) (ρ:Rho) (m:Store),ds.drop k=es→k≤ds.length→I k ρ m→Es (Yc T g body es ρ m) N R Y:=by
  intro es
  induction es with
  | nil =>
   intro k ρ m e hk hI
   have:k=ds.length:=by have:=congrArg List.length e;simp at this;omega
   subst this
   rw [ZdE (hT _ _ _ hI)]
   exact hn ρ m hI
  | cons d es ih =>
   intro k ρ m e hk hI
   have hd:ds[k]?=some d:=by
    have:=congrArg List.head? e
    rw [List.head?_drop] at this
    exact this
   have hk':k < ds.length:=(List.getElem?_eq_some_iff.mp hd).1
   have he:ds.drop (k+1)=es:=by
    rw [←List.drop_drop,e]
    rfl
   have st:=hs k d hd ρ m hI
   rw [←KD] at st
   rw [ZdD (hT _ _ _ hI)]
   cases q:(g d ρ m).seq body with
   | nx ρ1 m1 =>
    rw [q] at st
    exact ih (k+1) ρ1 m1 he hk' st
   | rt x m1=>rw [q] at st;exact st
   | exc x ρ1 m1=>rw [q] at st;exact st
   | bk ρ1 m1=>rw [q] at st;exact st.elim
   | ct ρ1 m1=>rw [q] at st;exact st.elim
   | stuck=>rw [q] at st;exact st.elim
 exact key ds 0 ρ m (by simp) (Nat.zero_le _) h0
theorem Zgh {g:D→Rho→Option Rho} {t:Rho→Store→Res Bool} {fe:FE} (I:Nat→List D→Store→Prop) {ds:List D} {ρ:Rho} {m:Store} {P:List D→Store→Prop} (h0:I 0 [] m) (hT:∀j acc m,I j acc m→T m)
  (hs:∀j d,ds[j]?=some d→∀acc m,I j acc m→∃ρ1,g d ρ=some ρ1∧Ev (t ρ1 m) (fun b m1=>if b=true then Ev (fe ρ1 m1) (fun y m2=>I (j+1) (acc++[y]) m2) nX else I (j+1) acc m1) nX) (hn:∀ys m,I ds.length ys m→P ys m):Ev (Yl T g t fe ρ ds m) P X:=by
 have key:∀(es:List D) (k:Nat) (acc:List D) (m:Store),ds.drop k=es→k≤ds.length→I k acc m→Ev (Yl T g t fe ρ es m) (fun ys m'=>I ds.length (acc++ys) m') nX:=by
  intro es
  induction es with
  | nil =>
   intro k acc m e hk hI
   have:k=ds.length:=by have:=congrArg List.length e;simp at this;omega
   subst this
   rw [ZbQ (hT _ _ _ hI)]
   show I ds.length (acc++[]) m
   rw [List.append_nil]
   exact hI
  | cons d es ih =>
   intro k acc m e hk hI
   have hd:ds[k]?=some d:=by
    have:=congrArg List.head? e
    rw [List.head?_drop] at this
    exact this
   have hk':k < ds.length:=(List.getElem?_eq_some_iff.mp hd).1
   have he:ds.drop (k+1)=es:=by
    rw [←List.drop_drop,e]
    rfl
   obtain ⟨ρ1,h1,h2⟩:=hs k d hd acc m hI
   rw [ZbP (hT _ _ _ hI),h1]
   dsimp only
   rw [JB,Zdw]
   refine h2.mono (fun b m1 hb=>?_) fun _ _ z=>z
   cases b with
   | false=>exact ih (k+1) acc m1 he hk' (by simpa using hb)
   | true =>
    have hb:Ev (fe ρ1 m1) (fun y m2=>I (k+1) (acc++[y]) m2) nX:=by simpa using hb
    rw [if_pos rfl,JB,Zdw]
    refine hb.mono (fun y m2 hy=>?_) fun _ _ z=>z
    rw [JB]
    refine (ih (k+1) _ m2 he hk' hy).mono (fun ys m3 h3=>?_) fun _ _ z=>z
    show I ds.length (acc++y::ys) m3
    have e2:acc++y::ys=acc++[y]++ys:=by simp
    rw [e2]
    exact h3
 exact (key ds 0 [] m (by simp) (Nat.zero_le _) h0).mono (fun ys m' h=>hn _ _ (by simpa using h)) fun _ _ z=>z.elim
end
structure View (T:Store→Prop) (x:D) (g:List Cell) (ps:List PyData):Prop where
 isl:∀J l,Yt [x,.ty "list"] ⟨g++J,l⟩=some (.p (.bool true),⟨g++J,l⟩)
 len:∀J l,Ja [x] ⟨g++J,l⟩=some (.p (.int ps.length),⟨g++J,l⟩)
 seq:∀J l,Y5 x ⟨g++J,l⟩=some (ps.map D.p,T)
 sl:∀lo hi J l,slD .z x lo hi ⟨g++J,l⟩=some (.p (.list (cut ps lo hi)),⟨g++J,l⟩)
 ix:∀(k:Int) d J l,0≤k→ps[k.toNat]?=some d→ixG x (.p (.int k)) ⟨g++J,l⟩=some (.p d,⟨g++J,l⟩)
 nl:nl x=true
 t:∀J l,T ⟨g++J,l⟩
theorem View.p {ps:List PyData} {g:List Cell}:View (fun _=>True) (.p (.list ps)) g ps :=
 ⟨fun _ _=>rfl,fun _ _=>JH ps,fun _ _=>rfl,fun lo hi _ _=>ZaS ps lo hi,fun k d _ _ h e=>ZbM h e,rfl,fun _ _=>trivial⟩
end L2.Dn
namespace L2.Dn
open PySem PySem.Spec PyProof.Rows L2
section
variable {κ:Type} [DecidableEq κ] {P:Program} {w:World}
/-- an entry for a key -/
structure qwY (knd:PySem.KeyKind P w κ) (k:κ) (e:Int×Value):Prop where
 is_:knd.is k e.2=true
 hash:e.1=knd.hash k
 scan:e.2.scannable=true
/-- a set at a: its keys in the order of its entries;its table can be walked -/
structure qwK (knd:PySem.KeyKind P w κ) (h:Heap) (a:Addr) (ks:List κ) (o:Obj) (es:Array (Int×Value)) (ep:Nat) (t:SetTable):Prop where
 at_:h.get? a=some o
 ex:o.ExactSet
 dat:o.data = .set es ep t
 row:PySem.Paired (qwY knd) ks es.toList
 nd:ks.Nodup
 few:es.size < scanBound
 fit:t.fits es.size=true
 ris:Ris t.place.toList
 led:w.params.followText "set-order"=true∨t.led=true
def qwa (knd:PySem.KeyKind P w κ) (h:Heap) (a:Addr) (ks:List κ):Prop:=∃o es ep t,qwK knd h a ks o es ep t
variable {knd:PySem.KeyKind P w κ} {h h':Heap} {a:Addr} {ks:List κ} {o:Obj} {es:Array (Int×Value)} {ep:Nat} {t:SetTable} {A:Around} {E:Value→Shared→Prop} {s:Shared}
theorem qwK.size (S:qwK knd h a ks o es ep t):es.size=ks.length:=by rw [S.row.length,Array.length_toList]
theorem qwa.nd (S:qwa knd h a ks):ks.Nodup:=let ⟨_,_,_,_,z⟩:=S;z.nd
end
end L2.Dn
namespace L2.Dn
open PySem PySem.Spec PyProof.Rows L2
end L2.Dn
namespace L2.Dn
open PySem PySem.Spec PyProof.Rows L2
end L2.Dn
namespace L2.Dn
open PySem PySem.Spec PyProof.Rows L2
end L2.Dn
namespace L2.Dn
open PySem PySem.Spec PyProof.Rows L2
end L2.Dn
namespace L2.Dn
open PySem PySem.Spec PyProof.Rows L2
end L2.Dn
namespace L2.Dn
open PySem PySem.Spec PyProof.Rows L2
end L2.Dn
namespace L2.Dn
open PySem PySem.Spec PyProof.Rows L2
structure KS (P:Program) (w:World) (κ:Type) [DecidableEq κ] where
 K:HeapKind P w κ
 oc:∀{A:Around} {E:Value→Shared→Prop} {s:Shared} {k:κ} {a:Addr} {Q:Bool→Shared→Prop},K.is s.heap k a→Q false s→wpAny (model P w) A (ofAClassStatement 8 (.ref a)) Q E s
 hb:∀{A:Around} {E:Value→Shared→Prop} {s:Shared} {k:κ} {a:Addr} {Q:Bool→Shared→Prop},K.is s.heap k a→(∀b,Q b s)→wpAny (model P w) A (hashByValue 8 (.ref a)) Q E s
 kp:∀{h h':Heap} {k:κ} {a:Addr},K.is h k a→(∀b o vs n,h.get? b=some o→o.data = .seq vs n→h'.get? b=some o)→K.is h' k a
section
variable {P:Program} {w:World} {κ:Type} [DecidableEq κ] (S:KS P w κ)
def KS.rows (L:List (Addr×κ)):List (Int×Value):=L.map fun p=>(S.K.hash p.2,Value.ref p.1)
def KS.hs (L:List (Addr×κ)):List Int:=L.map fun p=>S.K.hash p.2
theorem KS.quJ (L:List (Addr×κ)):(S.rows L).length=L.length:=List.length_map ..
theorem KS.qwj (L:List (Addr×κ)):(S.hs L).length=L.length:=List.length_map ..
structure qwH (h:Heap) (a:Addr) (L:List (Addr×κ)) (o:Obj) (es:Array (Int×Value)) (ep:Nat) (t:SetTable):Prop where
 ob:h.get? a=some o
 ex:o.ExactSet
 dat:o.data = .set es ep t
 rows:es.toList=S.rows L
 tab:TabOk t (S.hs L)
 nd:(L.map (·.2)).Nodup
 tup:∀p∈L,S.K.is h p.2 p.1
 led:w.params.followText "set-order"=true∨t.led=true
 room:L.length*5 < t.mask*3
 few:L.length < 64
variable {S} {A:Around} {E:Value→Shared→Prop} {s:Shared} {a x:Addr} {k:κ} {L:List (Addr×κ)} {o:Obj} {es:Array (Int×Value)} {ep:Nat} {t:SetTable} {h h':Heap}
theorem qwH.size (R:qwH S h a L o es ep t):es.size=L.length:=by rw [←Array.length_toList,R.rows,S.quJ]
theorem fits_of {t:SetTable} {n:Nat} (h1:t.dummies=#[]) (h2:t.place.size=n) (h3:n≤t.mask):t.fits n=true:=by
 simp only [SetTable.fits,SetTable.fill,h1,h2,Bool.and_eq_true,beq_iff_eq,decide_eq_true_eq,true_and];exact h3
theorem qwH.fits (R:qwH S h a L o es ep t):t.fits es.size=true:=fits_of R.tab.dm (by rw [R.tab.sz,S.qwj,R.size]) (by have:=R.size;have:=R.room;omega)
/-- where a search stands behind c steps -/
abbrev pos (m:Nat) (h:Int) (c:Nat):SetTable.Probe:=nth m (runAt m (SetTable.bits h % (m+1)) (SetTable.bits h)) c
/-- what the set has got of the first i keys -/
structure qwJ (ks:List (Addr×κ)) (i:Nat) (L:List (Addr×κ)):Prop where
 sub:∀p∈L,p∈ks.take i
 all:∀p∈ks.take i,p.2∈L.map (·.2)
 len:L.length≤i
variable {ks:List (Addr×κ)}
theorem qwJ.next {i:Nat} {y:Addr×κ} {L':List (Addr×κ)} (g:qwJ ks i L) (e:ks[i]?=some y) (c1:y.2∈L.map (·.2)→L'=L) (c2:y.2∉L.map (·.2)→L'.Perm (y::L)):qwJ ks (i+1) L':=by
 have tk:ks.take (i+1)=ks.take i++[y]:=by rw [List.take_succ,e];rfl
 rcases Classical.em (y.2∈L.map (·.2)) with c | c
 ·rw [c1 c]
  refine ⟨fun p hp=>by rw [tk];exact List.mem_append_left _ (g.sub p hp),fun p hp=>?_,Nat.le_succ_of_le g.len⟩
  rw [tk,List.mem_append,List.mem_singleton] at hp
  rcases hp with z | rfl
  ·exact g.all p z
  ·exact c
 ·have pm:=c2 c
  refine ⟨fun p hp=>?_,fun p hp=>?_,by rw [pm.length_eq];exact Nat.succ_le_succ g.len⟩
  ·rw [tk,List.mem_append,List.mem_singleton]
   rcases List.mem_cons.mp (pm.mem_iff.mp hp) with z | z
   ·exact .inr z
   ·exact .inl (g.sub p z)
  ·rw [(pm.map (·.2)).mem_iff,List.map_cons]
   rw [tk,List.mem_append,List.mem_singleton] at hp
   rcases hp with z | rfl
   ·exact List.mem_cons_of_mem _ (g.all p z)
   ·exact List.mem_cons_self ..
end
end L2.Dn
namespace L2.Dn
open PySem PySem.Spec PyProof.Rows L2
section
variable {P:Program} {w:World}
def qul (P:Program) (w:World) (n:Nat) (s:Shared) (v:Value):Prop:=∀(A:Around) (E:Value→Shared→Prop) (Q:Bool→Shared→Prop),Q false s→wpAny (model P w) A (ofAClassStatement n v) Q E s
def qwG (P:Program) (w:World) (n:Nat) (s:Shared) (v:Value):Prop:=∀(A:Around) (E:Value→Shared→Prop) (Q:Bool→Shared→Prop),(∀b,Q b s)→wpAny (model P w) A (hashByValue n v) Q E s
theorem qul.tup {n:Nat} {s:Shared} {a:Addr} {o:Obj} {vs:Array Value} {m:Nat} (ho:s.heap.get? a=some o) (hc:o.cls = .type "tuple") (hd:o.data = .seq vs m) (all:∀v∈vs.toList,qul P w n s v):qul P w (n+1) s (.ref a):=fun A E Q q=>by
 unfold ofAClassStatement
 refine wpAny_bind (wpAny_typeOf (⟨o,ho,hc⟩:s.TypeIs (.ref a) "tuple") ?_);dsimp only
 simp only [show (("tuple":String) == "tuple")=true by decide,if_true,Bool.not_true,Bool.false_eq_true,if_false]
 try refine wpAny_bind (wpAny_pure ?_)
 try simp only [Bool.not_true,Bool.false_eq_true,if_false]
 show wpAny _ _ (seqItems? (.ref a) >>= _) _ _ s
 refine wpAny_bind (wpAny_seqItems ho hd ?_);dsimp only
 refine wpAny_bind ?_;show wpAny _ _ (forIn vs _ _) _ _ s;rw [←Array.forIn_toList]
 refine wpAny_forIn_list _ (fun rest r z=>r.1=none∧z=s∧∀v∈rest,qul P w n s v) _ ?_ ?_ _ _ ⟨rfl,rfl,all⟩
 ·rintro v rest r z ⟨hr,rfl,hall⟩
  refine wpAny_bind (hall v (List.mem_cons_self ..) _ _ _ ?_);simp only [Bool.false_eq_true,if_false]
  exact wpAny_pure ⟨rfl,rfl,fun u hu=>hall u (List.mem_cons_of_mem _ hu)⟩
 ·rintro ⟨r1,r2⟩ z ⟨hr,rfl,_⟩
  cases hr
  exact wpAny_pure q
theorem qwG.tup {n:Nat} {s:Shared} {a:Addr} {o:Obj} {vs:Array Value} {m:Nat} (ho:s.heap.get? a=some o) (hc:o.cls = .type "tuple") (hd:o.data = .seq vs m) (all:∀v∈vs.toList,qwG P w n s v):qwG P w (n+1) s (.ref a):=fun A E Q q=>by
 unfold hashByValue
 refine wpAny_bind (wpAny_specialOf (⟨o,ho,hc⟩:s.TypeIs (.ref a) "tuple") F.slot_tuple_hash.lookup ?_)
 show wpAny _ _ (seqItems? (.ref a) >>= _) _ _ s
 refine wpAny_bind (wpAny_seqItems ho hd ?_)
 refine wpAny_bind ?_;show wpAny _ _ (forIn vs _ _) _ _ s;rw [←Array.forIn_toList]
 refine wpAny_forIn_list _ (fun rest r z=>(r.1=none∨r.1=some false)∧z=s∧∀v∈rest,qwG P w n s v) _ ?_ ?_ _ _ ⟨.inl rfl,rfl,all⟩
 ·rintro v rest r z ⟨hr,rfl,hall⟩
  refine wpAny_bind (hall v (List.mem_cons_self ..) _ _ _ fun b=>?_)
  cases b
  ·simp only [Bool.not_false,if_true]
   refine wpAny_pure ?_
   first
    | exact ⟨.inr rfl,rfl⟩
    | exact ⟨.inr rfl,rfl,fun u hu=>hall u (List.mem_cons_of_mem _ hu)⟩
    | exact wpAny_pure (q false)
    | exact q false
  ·simp only [Bool.not_true,Bool.false_eq_true,if_false]
   exact wpAny_pure ⟨.inl rfl,rfl,fun u hu=>hall u (List.mem_cons_of_mem _ hu)⟩
 ·rintro ⟨r1,r2⟩ z ⟨hr,rfl,_⟩
  rcases hr with hr | hr <;> (cases hr;exact wpAny_pure (q _))
end
end L2.Dn
namespace L2.Dn
open PySem PySem.Spec PyProof.Rows L2
end L2.Dn
namespace L2.Dn
open PySem PySem.Spec PyProof.Rows L2
end L2.Dn
namespace L2.Dn
open PySem PySem.Spec PyProof.Rows L2
end L2.Dn
namespace L2.Dn
open PySem PySem.Spec PyProof.Rows L2
end L2.Dn
namespace L2.Dn
open PySem PySem.Spec PyProof.Rows L2
end L2.Dn
namespace L2.Dn
open PySem PySem.Spec PyProof.Rows L2
end L2.Dn
namespace L2.Dn
open PySem PySem.Calls PySem.Spec PySem.W PyProof.Rows PyProof.V L2
end L2.Dn
namespace L2.Dn
open PySem PySem.Spec PyProof.Rows L2
/-- what such a step keeps -/
structure Thk (X:Cx) (pins:List (Addr×Obj)) (σ:St) (s:Shared) (c:Anc) (m m':Store) (H H':Hp):Prop where
 inv:Inv X pins σ H' s
 gd:Gd X.kw c c m' H H'
 same:∀k a,c.at_ k=some a→m'.at_ k≠some .gone→H' a=H a
 gone:∀k,m.at_ k=some .gone→m'.at_ k=some .gone
section
variable {X:Cx} {pins:List (Addr×Obj)} {σ:St} {s:Shared} {c:Anc} {m m' m1:Store} {H H' H1:Hp}
theorem Thk.refl (I:Inv X pins σ H s) (r:Q9 X.kw c m H):Thk X pins σ s c m m H H:=⟨I,Gd.refl r,fun _ _ _ _=>rfl,fun _ h=>h⟩
theorem Thk.trans (a:Thk X pins σ s c m m1 H H1) (b:Thk X pins σ s c m1 m' H1 H'):Thk X pins σ s c m m' H H' :=
 ⟨b.inv,a.gd.trans b.gd,fun k p hk hg=>(b.same k p hk hg).trans (a.same k p hk fun z=>hg (b.gone k z)),fun k h=>b.gone k (a.gone k h)⟩
theorem set_other {x:Cell} {i k:Ix} (h:k≠i):(m.set x i).at_ k=m.at_ k:=by
 cases i with
 | g i =>
  cases k with
  | g k=>show (m.g.set i x)[k]?=m.g[k]?;rw [List.getElem?_set_ne (fun z=>h (by rw [z]))]
  | l k=>rfl
 | l i =>
  cases k with
  | l k=>show (m.l.set i x)[k]?=m.l[k]?;rw [List.getElem?_set_ne (fun z=>h (by rw [z]))]
  | g k=>rfl
theorem set_same {x y:Cell} {i:Ix} (h:m.at_ i=some y):(m.set x i).at_ i=some x:=by
 cases i with
 | g i =>
  show (m.g.set i x)[i]?=some x
  rw [List.getElem?_set_self (List.getElem?_eq_some_iff.mp h).1]
 | l i =>
  show (m.l.set i x)[i]?=some x
  rw [List.getElem?_set_self (List.getElem?_eq_some_iff.mp h).1]
/-- a cell is frozen -/
theorem Thk.cell {j:Ix} {a:Addr} {u:HO} {x:Cell} (I:Inv X pins σ H s) (r:Q9 X.kw c m H) (hj:c.at_ j=some a) (hm:m.at_ j=some x) (lx:x ≠ .gone) (ha:H a=some u) (lu:JK u=true) (mu:Mut (some u)) :
  ∃o,Thk X pins σ s c m (m.set .gone j) H (upd H a (.frz o u)):=by
 obtain ⟨o,I'⟩:=Inv.lock I ha mu
 refine ⟨o,I',r.qvF hj hm lx ha lu,fun k b hk hg=>?_,fun k h=>?_⟩
 ·by_cases e:k=j
  ·subst e;exact absurd (set_same hm) hg
  ·exact upd_ne fun z=>e (r.inj k j a (by rw [←z];exact hk) hj)
 ·by_cases e:k=j
  ·subst e;exact set_same hm
  ·rw [set_other e];exact h
end
end L2.Dn
namespace L2.Dn
open PySem PySem.Spec PyProof.Rows L2
end L2.Dn
namespace L2.Dn
open PySem PySem.Spec PyProof.Rows L2
theorem qlO.get {κ α:Type} [BEq κ] [LawfulBEq κ] [DecidableEq κ] {M:qlO κ} {f:α→D} {m:Store} {i:Ix} {l:List (κ×α)} {k:κ} {d:D} (h:m.at_ i=some (.dct (M.kv f l))):ZdG (.cell i) [.p (M.kd k),d] m=some (((l.lookup k).map f).getD d,m):=by
 simp only [ZdG,Zfw h,M.key,M.lk]
theorem Kh (m:Store) (n:Nat):∀ps:List PyData,Yg (deep m n) (ps.map D.p)=some ps
 | []=>rfl
 | p::ps=>by
  have e:deep m n (.p p)=some p:=by cases n <;> rfl
  have ih:=Kh m n ps
  simp only [List.map_cons,Yg,e,ih]
  try rfl
structure Fl (n:Nat) (p:PyData):Prop where
 fl:Wf p=true
 dp:p.depth≤n
theorem Fl.mono {n n':Nat} {p:PyData} (h:Fl n p) (k:n≤n'):Fl n' p:=⟨h.fl,Nat.le_trans h.dp k⟩
theorem Fl.none {n:Nat}:Fl n .none:=⟨rfl,Nat.zero_le _⟩
theorem Fl.int {n:Nat} {i:Int}:Fl n (.int i):=⟨rfl,Nat.zero_le _⟩
theorem Fl.str {n:Nat} {x:Str} (h:PyData.strOk x=true):Fl n (.str x):=⟨h,Nat.zero_le _⟩
theorem Zbh {n:Nat}:∀{ps:List PyData},(∀p∈ps,p.depth≤n)→PyData.depthAll ps≤n
 | [],_=>Nat.zero_le _
 | p::ps,h=>by
  simp only [PyData.depthAll]
  have h1:=h p (List.mem_cons_self ..)
  have h2:=Zbh fun q hq=>h q (List.mem_cons_of_mem _ hq)
  omega
theorem Fl.list {n:Nat} {ps:List PyData} (h:∀p∈ps,Fl n p):Fl (n+1) (.list ps):=⟨by simp only [Wf];exact Zbz fun p hp=>(h p hp).fl,by simp only [PyData.depth];have:=Zbh fun p hp=>(h p hp).dp;omega⟩
theorem Fl.tuple {n:Nat} {ps:List PyData} (h:∀p∈ps,Fl n p):Fl (n+1) (.tuple ps):=⟨by simp only [Wf];exact Zbz fun p hp=>(h p hp).fl,by simp only [PyData.depth];have:=Zbh fun p hp=>(h p hp).dp;omega⟩
section
variable {α:Type} {g:D→Rho→Option Rho} {t:Rho→Store→Res Bool} {fe:FE} {ρ:Rho} {m:Store} {P:List D→Store→Prop} {X:Exn→Store→Prop}
theorem Zhv {T:Store→Prop} (hT:T m) (e:α→D) (p:α→Bool) (f:α→D) {xs:List α} (h:∀x∈xs,∃ρ1,g (e x) ρ=some ρ1∧t ρ1 m = .ok (p x) m∧(p x=true→fe ρ1 m = .ok (f x) m)):Yl T g t fe ρ (xs.map e) m = .ok ((xs.filter p).map f) m:=by
 induction xs with
 | nil=>exact ZbQ hT
 | cons x xs ih =>
  obtain ⟨ρ1,h1,h2,h3⟩:=h x (List.mem_cons_self ..)
  have ih:=ih fun y hy=>h y (List.mem_cons_of_mem _ hy)
  rw [List.map_cons,ZbP hT]
  simp only [h1,h2,noX,Z5]
  cases hp:p x with
  | false=>simp only [Bool.false_eq_true,if_false,ih,List.filter_cons_of_neg (show ¬p x=true by rw [hp];exact Bool.false_ne_true)]
  | true=>simp only [if_true,h3 hp,Z5,ih,List.filter_cons_of_pos (show p x=true from hp),List.map_cons]
theorem Zhu {T:Store→Prop} (hT:T m) (e:α→D) (f:α→D) {xs:List α} (h:∀x∈xs,∃ρ1,g (e x) ρ=some ρ1∧t ρ1 m = .ok true m∧fe ρ1 m = .ok (f x) m):Yl T g t fe ρ (xs.map e) m = .ok (xs.map f) m:=by
 rw [Zhv hT e (fun _=>true) f fun x hx=>by obtain ⟨ρ1,h1,h2,h3⟩:=h x hx;exact ⟨ρ1,h1,h2,fun _=>h3⟩,List.filter_eq_self.mpr fun _ _=>rfl]
end
theorem ZhK {α:Type} {xs:List α} {f:α→PyData}:Zh (xs.map fun x=>D.p (f x)) = .p (.list (xs.map f)):=by
 rw [show (xs.map fun x=>D.p (f x))=(xs.map f).map D.p by simp [Function.comp_def],Wu]
end L2.Dn
namespace L2.Dn
open PySem PySem.Spec PyProof.Rows L2
end L2.Dn
namespace L2.Dn
open PySem PySem.Spec PyProof.Rows L2
end L2.Dn
namespace L2.Dn
open PySem PySem.Spec PyProof.Rows L2
end L2.Dn
namespace L2.Dn
open PySem PySem.Spec PyProof.Rows L2
end L2.Dn
namespace L2.Dn
open PySem PySem.Spec PyProof.Rows L2
end L2.Dn
namespace L2.Dn
open PySem PySem.Spec PyProof.Rows L2
/-- what such an __init__ promises -/
def Jf (Ca:Addr):Sp:=fun vs H Q _=>∃a,vs=[.ref a]∧H a=some (exo a Ca none)∧Q .non H
theorem Vu {Ca:Addr}:∀vs H Q E,Jf Ca vs H Q E→vs.length=([Str.ofString "self"]:List Str).length:=by
 rintro vs H Q E ⟨a,rfl,_⟩
 rfl
end L2.Dn
namespace L2.Dn
open PySem PySem.Spec PyProof.Rows L2
end L2.Dn
namespace L2.Dn
open PySem PySem.Spec PyProof.Rows L2
end L2.Dn
namespace L2.Dn
open PySem PySem.Spec PyProof.Rows L2
end L2.Dn
namespace L2.Dn
open PySem PySem.Spec PyProof.Rows L2
end L2.Dn
namespace L2.Dn
open PySem PySem.Spec PyProof.Rows L2
end L2.Dn
namespace L2.Dn
open PySem PySem.Spec PyProof.Rows L2
def qwA (K:KW) (n:Nat) (den:Den) (vs:List V) (H:Hp) (Q:VK):Prop:=∃(cg:List Addr) (ds:List D) (g:List Cell),ds.length=n∧Q9 K.cold ⟨cg,[]⟩ ⟨g,[]⟩ H∧VDs K H ⟨cg,[]⟩ vs ds∧(match den ds g with
 | .ok d g'=>∀cg' v H',Gd K.cold ⟨cg,[]⟩ ⟨cg',[]⟩ ⟨g',[]⟩ H H'→VD K.cold H' ⟨cg',[]⟩ v d→Q v H'
 | _=>False)
theorem qwA.len {K:KW} {n:Nat} {den:Den} {vs:List V} {H:Hp} {Q:VK} (h:qwA K n den vs H Q):vs.length=n:=by
 obtain ⟨cg,ds,g,h1,h2,h3,h4⟩:=h
 rw [h3.length,h1]
end L2.Dn
namespace L2.Dn
open PySem PySem.Spec PyProof.Rows L2
end L2.Dn
namespace L2.Dn
open PySem PySem.Spec PyProof.Rows L2
end L2.Dn
namespace L2.Dn
open PySem PySem.Spec PyProof.Rows L2
end L2.Dn
namespace L2.Dn
open PySem PySem.Spec PyProof.Rows L2
end L2.Dn
namespace L2.Dn
open PySem PySem.Spec PyProof.Rows L2
end L2.Dn
namespace L2.Dn
open PySem PySem.Spec PyProof.Rows L2
section
open PySem.SeqAt AutoSeq1 MeetsSeq MeetsSeq2 MeetsSeq3 SeqRoads2
variable {prog:Program} {w:World}
theorem Zj0 (l b:Addr) (us ws:Array Value) (n n2:Nat) (dd dd2:Option Addr) (sl sl2:Array (Option Value)) (e:Nat→Bool):MeetsIn prog w (Builtin.«tuple.__eq__» ⟨[.ref l,.ref b],[]⟩) (fun A R s=>s.heap.get? l=some { cls := .type "tuple",dict:=dd,data := .seq us n,slots:=sl }∧s.heap.get? b=some { cls := .type "tuple",dict:=dd2,data := .seq ws n2,slots:=sl2 }∧(∀j (h1:j < us.size) (h2:j < ws.size),EqP prog w A.in1 s us[j] ws[j] (e j))∧R (.ok (.ret (.bool ((List.range (min us.size ws.size)).all e && us.size == ws.size)))) s):=by
 intro A R s h
 obtain ⟨hp,g,d,tk,os⟩:=s;obtain ⟨hl,hb,he,h⟩:=h
 have f2:=AutoSeq1.sub_tuple_tuple
 have hZ:(us.toList.zip ws.toList).length=min us.size ws.size:=by simp
 wp_walk using wpAny_loadPart' hl,wpAny_loadPart' hb,wpAny_forIn_list _ (fun rest b s'=>b.1=none∧s'=⟨hp,g,d,tk,os⟩∧∃i,rest=(us.toList.zip ws.toList).drop i∧R (.ok (.ret (.bool (((List.range (min us.size ws.size)).drop i).all e && us.size == ws.size)))) ⟨hp,g,d,tk,os⟩) _
 case turn =>
  rintro ⟨y,x⟩ rest b s' ⟨hb',rfl,i,hz,hR⟩
  have hlt:i < (us.toList.zip ws.toList).length:=by
   rcases Nat.lt_or_ge i (us.toList.zip ws.toList).length with k | k
   ·exact k
   ·rw [List.drop_of_length_le k] at hz;cases hz
  have hm:i < min us.size ws.size:=hZ ▸ hlt
  have h1:i < us.size:=Nat.lt_of_lt_of_le hm (Nat.min_le_left _ _)
  have h2:i < ws.size:=Nat.lt_of_lt_of_le hm (Nat.min_le_right _ _)
  rw [List.drop_eq_getElem_cons hlt] at hz
  injection hz with hyx hrest
  have hy:y=us[i]:=by have:=congrArg Prod.fst hyx;simpa using this
  have hx:x=ws[i]:=by have:=congrArg Prod.snd hyx;simpa using this
  subst hy hx
  have hd:(List.range (min us.size ws.size)).drop i=i::(List.range (min us.size ws.size)).drop (i+1):=by simp [List.drop_eq_getElem_cons,hm]
  rw [hd,List.all_cons] at hR
  refine wpAny_bind (he i h1 h2 _ _ ?_)
  cases hy:e i with
  | true =>
   rw [hy] at hR
   wp_walk
   exact ⟨rfl,rfl,i+1,hrest,by simpa using hR⟩
  | false =>
   rw [hy] at hR
   wp_walk
   simpa using hR
 case fin =>
  rintro ⟨b1,b2⟩ s' ⟨hb',rfl,i,hz,hR⟩
  simp only at hb'
  subst hb'
  have hge:min us.size ws.size≤i:=by
   rcases Nat.lt_or_ge i (us.toList.zip ws.toList).length with k | k
   ·rw [List.drop_eq_getElem_cons k] at hz;cases hz
   ·exact hZ ▸ k
  rw [List.drop_of_length_le (by simpa using hge)] at hR
  wp_walk
  simpa [Builtin.Tuple.tupleCompareSizes] using hR
 case h =>
  exact ⟨rfl,rfl,0,rfl,by simpa using h⟩
theorem Zj1 {A:Around} {s:Shared} {l b:Addr} {us ws:Array Value} {e:Nat→Bool} (hl:s.heap.IsTuple l us) (hb:s.heap.IsTuple b ws) (hu:A.units < cLine) (he:∀j (h1:j < us.size) (h2:j < ws.size),EqP prog w A.in1 s us[j] ws[j] (e j)) (E Q:Value→Shared→Prop) (h:Q (.bool ((List.range (min us.size ws.size)).all e && us.size == ws.size)) s):wpAny (model prog w) A (richCompare .Eq (.ref l) (.ref b)) Q E s:=by
 obtain ⟨⟨cls,dd,data,sl⟩,ho,hc,n,hd⟩:=id hl
 obtain ⟨⟨cls2,dd2,data2,sl2⟩,ho2,hc2,n2,hd2⟩:=id hb
 simp only at hc hd hc2 hd2
 subst hc hd hc2 hd2
 have ta:s.TypeIs (.ref l) "tuple":=⟨_,ho,rfl⟩
 have tb:s.TypeIs (.ref b) "tuple":=⟨_,ho2,rfl⟩
 exact wpAny_richCompare_same_room (op := .Eq) ta tb F.slot_tuple_eq (call_meetsIn F.slot_tuple_eq ta F.entry_tuple_eq (F.args_tuple_eq_2 _ _) (Zj0 l b us ws n n2 dd dd2 sl sl2 e)
  ⟨ho,ho2,he,show Value.bool ((List.range (min us.size ws.size)).all e && us.size == ws.size)≠Value.notImplemented∧Q (.bool ((List.range (min us.size ws.size)).all e && us.size == ws.size)) s from ⟨(fun x=>nomatch x),h⟩⟩) hu
end
section
variable {X:Cx} {pins:List (Addr×Obj)} {σ:St} {H:Hp} {s:Shared}
def JW (X:Cx) (H:Hp) (s:Shared) (A:Around) (d:PyData):Prop:=∀(v v':V) (u u':Value),DpZ X.kw H v d→DpZ X.kw H v' d→RelV v u→RelV v' u'→SeqAt.EqP X.prog X.w A s u u' true
theorem Zcj {A:Around}:∀{ds:List PyData} {vs vs':List V} {us us':List Value},(∀d∈ds,JW X H s A d)→RP X.kw H vs ds→RP X.kw H vs' ds→Vals vs us→Vals vs' us'→∀j (h1:j < us.length) (h2:j < us'.length),SeqAt.EqP X.prog X.w A s us[j] us'[j] true
 | [],_,_,us,_,_,.nil,.nil,r,_,j,h1,_=>by
  cases r
  exact absurd h1 (Nat.not_lt_zero j)
 | d::ds,_,_,_,_,ih,.cons a1 b1,.cons a2 b2,.cons r1 t1,.cons r2 t2,0,_,_=>ih d (List.mem_cons_self ..) _ _ _ _ a1 a2 r1 r2
 | d::ds,_,_,_,_,ih,.cons a1 b1,.cons a2 b2,.cons r1 t1,.cons r2 t2,j+1,h1,h2=>Zcj (fun e he=>ih e (List.mem_cons_of_mem _ he)) b1 b2 t1 t2 j (Nat.lt_of_succ_lt_succ h1) (Nat.lt_of_succ_lt_succ h2)
theorem ZgB {A:Around} {ys:List Ent} (nd:(ys.map (·.1)).Nodup) {xs zs:List Ent} (h:PySem.Paired (fun (x y:Ent)=>x.1=y.1∧SeqAt.EqP X.prog X.w A s x.2.2 y.2.2 true) xs zs):∀pre:List Ent,ys=pre++zs→Hit X.prog X.w A s ys xs true:=by
 induction h with
 | nil=>exact fun _ _ => .nil
 | @cons x y xs zs h t ih =>
  intro pre e
  have hy:ys[pre.length]?=some (y.1,y.2):=by rw [e,List.getElem?_append_right (Nat.le_refl _)];simp
  have hl:lkE ys x.1=some y.2.2:=by rw [h.1];exact K9 nd hy
  have:=Hit.hit hl h.2 (ih (pre++[y]) (by rw [e,List.append_assoc];rfl))
  simpa using this
theorem Zen {A:Around}:∀{ds:List (PyData×PyData)} {es es':List (NestedKey×V×V)} {xs ys:List Ent},(∀q∈ds,JW X H s A q.2)→es.map (fun e=>some e.1)=ds.map (fun q=>nk q.1)→es'.map (fun e=>some e.1)=ds.map (fun q=>nk q.1) →
  RP X.kw H (es.map (·.2.2)) (ds.map (·.2))→RP X.kw H (es'.map (·.2.2)) (ds.map (·.2))→PySem.Paired Yh es xs→PySem.Paired Yh es' ys→PySem.Paired (fun (x y:Ent)=>x.1=y.1∧SeqAt.EqP X.prog X.w A s x.2.2 y.2.2 true) xs ys
 | [],[],[],_,_,_,_,_,_,_,.nil,.nil => .nil
 | [],_::_,_,_,_,_,e,_,_,_,_,_=>by cases e
 | [],_,_::_,_,_,_,_,e,_,_,_,_=>by cases e
 | _::_,[],_,_,_,_,e,_,_,_,_,_=>by cases e
 | _::_,_,[],_,_,_,_,e,_,_,_,_=>by cases e
 | q::ds,a::es,b::es',_,_,ih,e1,e2,d1,d2,.cons h1 t1,.cons h2 t2=>by
  simp only [List.map_cons,List.cons.injEq] at e1 e2 d1 d2
  cases d1 with
  | cons a1 b1 =>
   cases d2 with
   | cons a2 b2 =>
    refine .cons ⟨?_,ih q (List.mem_cons_self ..) _ _ _ _ a1 a2 h1.2.2 h2.2.2⟩ (Zen (fun z hz=>ih z (List.mem_cons_of_mem _ hz)) e1.2 e2.2 b1 b2 t1 t2)
    rw [←h1.1,←h2.1]
    have:=e1.1.trans e2.1.symm
    injection this
theorem Wc:∀{ds:List PyData} {d:PyData},d∈ds→d.depth≤PyData.depthAll ds
 | x::xs,d,h=>by
  simp only [PyData.depthAll]
  rcases List.mem_cons.mp h with rfl | h
  ·exact Nat.le_max_left ..
  ·exact Nat.le_trans (Wc h) (Nat.le_max_right ..)
theorem Zbi:∀{ds:List (PyData×PyData)} {q:PyData×PyData},q∈ds→q.2.depth≤PyData.depthKv ds
 | (a,b)::xs,q,h=>by
  simp only [PyData.depthKv]
  rcases List.mem_cons.mp h with rfl | h
  ·exact Nat.le_trans (Nat.le_max_right ..) (Nat.le_max_left ..)
  ·exact Nat.le_trans (Zbi h) (Nat.le_max_right ..)
theorem ZaZ {K:KW} {vs:List V} {ds:List PyData} (h:RP K H vs ds):vs.length=ds.length:=Az.len (RP.any h)
theorem ZiO {A:Around} (I:Inv X pins σ H s) (hu:A.units < cLine) {p:PyData} (hp:p.plain=true) (hd:p.depth=0):JW X H s A p:=fun v v' u u' h h' ru ru'=>by
 obtain ⟨as,ra⟩:=(DpA.rds I (DpZ.any h) ru).reads
 obtain ⟨bs,rb⟩:=(DpA.rds I (DpZ.any h') ru').reads
 have:=(SeqAt.eqAt_plain p p A s u u' as bs ra rb hp hp (by rw [hd];simpa using hu)).eqP (prog:=X.prog) (w:=X.w)
 rwa [SeqAt.eqv_refl_plain p hp] at this
theorem ZeG {A:Around} {a b:Addr} (h:a≠b→∀(E Q:Value→Shared→Prop),Q (.bool true) s→wpAny (model X.prog X.w) A (richCompare .Eq (.ref a) (.ref b)) Q E s):SeqAt.EqP X.prog X.w A s (.ref a) (.ref b) true:=by
 by_cases e:a=b
 ·subst e
  exact (SeqAt.EqAt.same _).eqP
 ·exact SeqAt.eqP_refs e (h e)
def Chd (d:PyData):PyData→Prop
 | .list ds=>d∈ds
 | .tuple ds=>d∈ds
 | .dict kvs=>∃q∈kvs,q.2=d
 | _=>False
theorem ZeC {A:Around} (I:Inv X pins σ H s) (hu:A.units+9 < cLine):∀(p:PyData),(∀d,Chd d p→JW X H s A.in1 d)→∀(v v':V) (u u':Value),DpZ X.kw H v p→DpZ X.kw H v' p→RelV v u→RelV v' u'→(∃a b,u = .ref a∧u' = .ref b∧∀(E Q:Value→Shared→Prop),Q (.bool true) s→wpAny (model X.prog X.w) A (richCompare .Eq (.ref a) (.ref b)) Q E s)∨(p.plain=true∧p.depth=0)
 | .none,_,_,_,_,_,_,_,_,_ => .inr ⟨rfl,rfl⟩
 | .bool b,_,_,_,_,_,_,_,_,_ => .inr ⟨rfl,rfl⟩
 | .int b,_,_,_,_,_,_,_,_,_ => .inr ⟨rfl,rfl⟩
 | .str b,_,_,_,_,_,_,_,_,_ => .inr ⟨rfl,rfl⟩
 | .list ds,ih,_,_,_,_,h,h',ru,ru'=>by
  cases h with
  | lst f d1 =>
   cases h' with
   | lst f' d2 =>
    cases ru;cases ru'
    obtain ⟨_,us,m,rv,e⟩:=f.rd.obj I
    obtain ⟨_,us',m',rv',e'⟩:=f'.rd.obj I
    refine .inl ⟨_,_,rfl,rfl,fun E Q q=>?_⟩
    have sz:us.toArray.size=us'.toArray.size:=by rw [List.size_toArray,List.size_toArray,←rv.length,←rv'.length,ZaZ d1,ZaZ d2]
    refine SeqAt.rcP_lists (e:=fun _=>true) ⟨_,e,rfl,_,rfl⟩ ⟨_,e',rfl,_,rfl⟩ sz (by omega) (fun j h1 h2=>?_) E Q ?_
    ·have:=Zcj (A:=A.in1) (fun d hd=>ih d hd) d1 d2 rv rv' j (by simpa using h1) (by simpa using h2)
     simpa using this
    ·rw [show ((List.range us.toArray.size).all fun _=>true)=true from List.all_eq_true.mpr fun _ _=>rfl]
     exact q
 | .tuple ds,ih,_,_,_,_,h,h',ru,ru'=>by
  cases h with
  | tup f d1 =>
   cases h' with
   | tup f' d2 =>
    cases ru;cases ru'
    obtain ⟨us,rv,e,_⟩:=I.tuple f
    obtain ⟨us',rv',e',_⟩:=I.tuple f'
    refine .inl ⟨_,_,rfl,rfl,fun E Q q=>?_⟩
    have sz:us.toArray.size=us'.toArray.size:=by rw [List.size_toArray,List.size_toArray,←rv.length,←rv'.length,ZaZ d1,ZaZ d2]
    refine Zj1 (e:=fun _=>true) (show s.heap.IsTuple _ us.toArray from e) (show s.heap.IsTuple _ us'.toArray from e') (by omega) (fun j h1 h2=>?_) E Q ?_
    ·have:=Zcj (A:=A.in1) (fun d hd=>ih d hd) d1 d2 rv rv' j (by simpa using h1) (by simpa using h2)
     simpa using this
    ·rw [sz,show ((List.range (min us'.toArray.size us'.toArray.size)).all fun _=>true)=true from List.all_eq_true.mpr fun _ _=>rfl,beq_self_eq_true]
     exact q
 | .dict ds,ih,_,_,_,_,h,h',ru,ru'=>by
  cases h with
  | @dG a o es _ z q h8 hn r1 r2 =>
   cases h' with
   | @dG b o' es' _ z' q' h8' hn' r1' r2' =>
    cases ru;cases ru'
    refine .inl ⟨_,_,rfl,rfl,fun E Q qq=>?_⟩
    have mk:∀{es:List (NestedKey×V×V)},es.map (fun e=>some e.1)=ds.map (fun q=>nk q.1)→(∀e∈es,e.1.depth≤8)→(es.map (·.1)).Nodup→RP X.kw H (es.map (·.2.1)) (ds.map (·.1))→RP X.kw H (es.map (·.2.2)) (ds.map (·.2))→qaF X.kw H ⟨[],[]⟩ es (ds.map fun q=>(q.1,D.p q.2)):=fun a b c d e=>⟨by rw [a,List.map_map];rfl,b,c,by rw [List.map_map];exact d,by
     rw [List.map_map]
     have:=VDs.ofp (c:=⟨[],[]⟩) e
     rwa [List.map_map] at this⟩
    obtain ⟨s1,xs,g1,p1⟩:=JD I (.inr ⟨_,z⟩) (mk q h8 hn r1 r2)
    obtain ⟨s2,ys,g2,p2⟩:=JD I (.inr ⟨_,z'⟩) (mk q' h8' hn' r1' r2')
    have pr:=Zen (A:=A.in1) (fun e he=>ih e.2 ⟨e,he,rfl⟩) q q' r2 r2' p1 p2
    have nd:=g2
    obtain ⟨_,_,_,_,_,_,_,_,nd⟩:=nd
    have ht:=ZgB (A:=A.in1) nd pr [] rfl
    have le:xs.length=ys.length:=Paired.len2 pr
    refine Zgb s1 s2 g1 g2 hu (fun _=>ht) ?_
    rw [le,beq_self_eq_true]
    exact qq
theorem ZeH (I:Inv X pins σ H s):∀(n:Nat) (A:Around),A.units+n+9 < cLine→∀(p:PyData),p.depth≤n→JW X H s A p:=by
 have out:∀(A:Around) (p:PyData),A.units+9 < cLine→(∀d,Chd d p→JW X H s A.in1 d)→JW X H s A p:=fun A p hu ih v v' u u' h h' ru ru'=>by
  rcases ZeC I hu p ih v v' u u' h h' ru ru' with ⟨a,b,rfl,rfl,k⟩ | ⟨k1,k2⟩
  ·exact ZeG fun _=>k
  ·exact ZiO I (by omega) k1 k2 v v' u u' h h' ru ru'
 intro n
 induction n with
 | zero =>
  intro A hu p hd
  refine out A p (by omega) fun d hc=>?_
  cases p <;> first | (exact hc.elim) | (exfalso;have hd:=Nat.le_zero.mp hd;unfold PyData.depth at hd;exact Nat.succ_ne_zero _ hd)
 | succ n ih =>
  intro A hu p hd
  refine out A p (by omega) fun d hc=>ih A.in1 (by show A.units+1+n+9 < cLine;omega) d ?_
  cases p with
  | list ds=>exact Nat.le_trans (Wc hc) (by simpa [PyData.depth] using hd)
  | tuple ds=>exact Nat.le_trans (Wc hc) (by simpa [PyData.depth] using hd)
  | dict ds =>
   obtain ⟨q,hq,rfl⟩:=hc
   exact Nat.le_trans (Zbi hq) (by simpa [PyData.depth] using hd)
  | none=>exact absurd hc (by simp [Chd])
  | bool b=>exact absurd hc (by simp [Chd])
  | int b=>exact absurd hc (by simp [Chd])
  | str b=>exact absurd hc (by simp [Chd])
end
open Classical in
/-- == of frozen data that are the same -/
noncomputable def Vf (x y:D) (m:Store):OD:=match x,y with
 | .p p,.p q=>if p=q∧p.depth≤50∧0 < p.depth then some (.p (.bool true),m) else none
 | _,_=>none
section
variable {X:Cx}
theorem Zh8 (hu:X.A.units+66 < cLine):OpR X (compareOp .Eq) (rOf X.kw Vf):=by
 intro pins s σ H x y v u Q I rx ry h
 obtain ⟨c,m,dx,dy,r,h1,h2,w⟩:=h
 unfold Vf at w
 split at w
 ·rename_i p q
  split at w
  ·rename_i hc
   obtain ⟨rfl,hd,h0⟩:=hc
   unfold VD at h1 h2
   rcases ZeC I (A:=X.A) (by omega) p (fun d hd'=>ZeH I 50 X.A.in1 (by show X.A.units+1+50+9 < cLine;omega) d (by
    refine Nat.le_trans ?_ hd
    cases p with
    | list ds=>exact Nat.le_trans (Wc hd') (by simp [PyData.depth])
    | tuple ds=>exact Nat.le_trans (Wc hd') (by simp [PyData.depth])
    | dict ds =>
     obtain ⟨q,hq,rfl⟩:=hd'
     exact Nat.le_trans (Zbi hq) (by simp [PyData.depth])
    | none=>exact absurd hd' (by simp [Chd])
    | bool b=>exact absurd hd' (by simp [Chd])
    | int b=>exact absurd hd' (by simp [Chd])
    | str b=>exact absurd hd' (by simp [Chd]))) _ _ _ _ h1 h2 rx ry with ⟨a,b,rfl,rfl,k⟩ | ⟨_,k2⟩
   ·exact k _ _ ⟨.bl _,H,I,rfl,w.now r (VD.bl.mpr rfl)⟩
   ·omega
  ·exact w.elim
 ·exact w.elim
end
end L2.Dn
namespace L2.Dn
open PySem PySem.Spec PyProof.Rows L2
end L2.Dn
namespace L2.Dn
open PySem PySem.Spec PyProof.Rows L2
def Bh (c0:Anc) (H0:Hp) (c:Anc) (H:Hp):Prop:=Pre c0 c∧Ext H0 H
def DEz (X:Cx) (W:WX) (c0:Anc) (H0:Hp) (e:Expr) (f:FE):Prop:=∀(c:Anc) (ρ:Rho) (m:Store) (σ:St) (H:Hp) (Q:VK),Bh c0 H0 c H→Q9 X.kw c m H→Slo X.kw H c ρ σ→Want X W c H σ (f ρ m) Q→WE X e σ H Q
theorem Bh.gd {K:KW} {c0 c c':Anc} {m':Store} {H0 H H':Hp} (b:Bh c0 H0 c H) (g:Gd K c c' m' H H'):Bh c0 H0 c' H':=⟨b.1.trans g.pre,b.2.trans g.ext⟩
section
variable {X:Cx} {W:WX} {a b e o tg iter:Expr} {es:List Expr} {fa fb f fo fk:FE} {fl:FI} {ft:Rho→Store→Res Bool} {pos apos cpos:Pos} {c c0 c':Anc} {ρ:Rho} {m m':Store} {σ:St} {H H0 H':Hp} {st:Stmt} {sts els body:List Stmt} {g gs ge gb:FS} {En:Ends} {i:Ix} {j:Nat} {kvs:List (PyData×D)} {fi:FI}
theorem DEz.HW {k:D→Store→Res D} {Q Q':VK} (h:DEz X W c0 H0 a fa) (z:Bh c0 H0 c H) (r:Q9 X.kw c m H) (s:Slo X.kw H c ρ σ) (hb:Want X W c H σ ((fa ρ m).bind k) Q')
  (q:∀d m1 c1 v H1,Q9 X.kw c1 m1 H1→Slo X.kw H1 c1 ρ σ→Gd X.kw c c1 m1 H H1→VD X.kw H1 c1 v d→Want X W c1 H1 σ (k d m1) Q'→Q v H1):WE X a σ H Q:=by
 refine h c ρ m σ H Q z r s ?_
 cases e:fa ρ m with
 | ok d m1 =>
  rw [e] at hb
  exact fun c1 v H1 g hv=>q d m1 c1 v H1 g.rel (g.slots s) g hv (Want.shift g hb)
 | exc x m1=>rw [e] at hb;exact hb
 | stuck=>rw [e] at hb;exact hb
theorem DEz.BZ {k:Dn.D→Store→Ib} {Q:VK} (h:DEz X W c0 H0 a fa) (z:Bh c0 H0 c H) (r:Q9 X.kw c m H) (s:Slo X.kw H c ρ σ) (hb:Xg X W c H ((fa ρ m).M5 ρ k) En)
  (q:∀d m1 c1 v H1,Q9 X.kw c1 m1 H1→Slo X.kw H1 c1 ρ σ→Gd X.kw c c1 m1 H H1→VD X.kw H1 c1 v d→Xg X W c1 H1 (k d m1) En→Q v H1):WE X a σ H Q:=by
 refine h c ρ m σ H Q z r s ?_
 cases e:fa ρ m with
 | ok d m1 =>
  rw [e] at hb
  exact fun c1 v H1 g hv=>q d m1 c1 v H1 g.rel (g.slots s) g hv (Xg.shift g hb)
 | exc x m1 =>
  rw [e] at hb
  exact fun c1 cls dd H1 g hv=>hb c1 σ cls dd H1 g (g.slots s) hv
 | stuck=>rw [e] at hb;exact hb
end
end L2.Dn
namespace L2.Dn
open PySem PySem.Spec PyProof.Rows L2
end L2.Dn
namespace L2.Dn
open PySem PySem.Spec PyProof.Rows L2
end L2.Dn
namespace L2.Dn
open PySem PySem.Spec PyProof.Rows L2
end L2.Dn
namespace L2.Dn
open PySem PySem.Spec PyProof.Rows L2
end L2.Dn
namespace L2.Dn
open PySem PySem.Spec PyProof.Rows L2
end L2.Dn
namespace L2.Dn
open PySem PySem.Spec PyProof.Rows L2
end L2.Dn
namespace L2.Dn
open PySem PySem.Spec PyProof.Rows L2
end L2.Dn
namespace L2.Dn
open PySem PySem.Spec PyProof.Rows L2
theorem Zgj {e:Addr} {fs:List (Str×V)} {o:Obj} {u:HO}:exd e fs ≠ .frz o u:=fun z=>by
 have z':HO.ext _=HO.frz o u:=z
 cases z'
theorem Zgk {e:Addr} {fs:List (Str×V)} {ps:Array Value}:exd e fs ≠ .tbl ps:=fun z=>by
 have z':HO.ext _=HO.tbl ps:=z
 cases z'
theorem Zgi {e C:Addr} {d:Option Addr} {fs:List (Str×V)} {hp:Heap} {P:Program} {w:World} {H:Hp} (hok:HOk P w H hp) (h1:H e=some (exd e fs)) (h2:H e=some (exo e C d)):False:=by
 obtain ⟨t1,q1⟩:=exo_at hok h2
 obtain ⟨mA,⟨o,es,ep,q2,q3,_⟩,_⟩:=exd_at hok h1
 rw [q1] at q2
 cases q2
 cases q3
section
variable {X:Cx} {pins:List (Addr×Obj)} {σ:St} {H:Hp} {s:Shared}
/-- the dict of an exception that is made stands as such -/
theorem Inv.xd {d:Addr} {fs:List (Str×V)} (I:Inv X pins σ H s) (e:H d=some (exd d fs)):Inv X pins σ (upd H d (.xd fs)) s:=by
 obtain ⟨mA,hns,rel⟩:=exd_at I.hok e
 obtain ⟨hp,g,dr,t,os⟩:=s
 refine I.un (t':=t) (h':=hp) ⟨fun b o q _ _ _=>q,fun b o q _ _ _=>⟨o.slots,q⟩,fun b o q n _=>?_,fun b o q _=>⟨o,q⟩,fun b xs q=>?_,fun b o u q=>?_,fun b ps q=>⟨#[],?_⟩⟩ fun b o q=>?_
 ·rw [upd_ne (fun z=>by rw [z,e] at n;cases n)]
  exact n
 ·rw [upd_ne (at_ne e q exd_tup)]
  exact q
 ·rw [upd_ne (at_ne e q Zgj)]
  exact q
 ·rw [upd_ne (at_ne e q Zgk),q]
  simp
 ·by_cases hb:b=d
  ·subst hb
   rw [upd_same] at q
   cases q
   exact ⟨mA,hns,rel⟩
  ·rw [upd_ne hb] at q
   exact (I.hok b o q).stay (fun c v _ z=>z) (fun c hc=>by rw [upd_ne (at_ne e hc exd_own)];exact hc) (fun c xs hc=>by rw [upd_ne (at_ne e hc exd_tup)];exact hc)
theorem ZhL {H1 H2:Hp} {hp2 h2:Heap} {g1 g2:Array GenState} {d1 d2:Drawn} {t1 t2:Nat} {os1 os2:OsState} {a C d:Addr} {fs:List (Str×V)} (I2:Inv X pins σ H1 ⟨hp2,g1,d1,t1,os1⟩) (un:Un (frs X.stack) [] H1 H2 hp2 h2) (hok:HOk X.prog X.w H2 h2) (ho:os2=os1) (hb:AllBare g2)
  (ea:H2 a=some (exo a C (some d))) (ed:H2 d=some (exd d fs)):∃o,Inv X pins σ (upd (upd H2 a (.frz o (exo a C (some d)))) d (.xd fs)) ⟨h2,g2,d2,t2,os2⟩:=by
 have J:Inv X pins σ H2 ⟨h2,g2,d2,t2,os2⟩:=I2.call' (ch:=[]) ho un hok hb (fun b z=>absurd z (by simp))
 have hda:d≠a:=fun z=>by
  subst z
  exact Zgi J.hok ed ea
 obtain ⟨o,K⟩:=Inv.lock J ea True.intro
 exact ⟨o,Inv.xd K (by rw [upd_ne hda];exact ed)⟩
end
section
variable {X:Cx} {W:WX} {e:Expr} {es:List Expr} {fl:FI} {pos p:Pos} {x:Str} {Ca fI:Addr} {k:Nat} {fd:FuncData} {ns:List Str} {ta:TA}
/-- C(e,..) as a value -/
def ZjR (C:Addr) (sp:Sp) (dvs:List V) (ta:TA):TE:=fun σ H Q=>ta σ H fun vs H1=>vs.length≤1000∧∀a,H1 a=none→sp (.ref a::(vs++dvs)) (upd H1 a (exo a C none))
 (fun v H2=>v = .non∧∃(d:Addr) (fs:List (Str×V)),H2 a=some (exo a C (some d))∧H2 d=some (exd d fs)∧∀o,Q (.ref a) (upd (upd H2 a (.frz o (exo a C (some d)))) d (.xd fs))) (fun _ _ _=>False)
theorem Ziw {CX:CXT} {C:Addr} {ps:List Str} {sp:Sp} {ds:List Value} {dvs:List V} (T:OexC X.K C) (iC:PySem.W.findIn X.K (.ref C) "__init__"=some (some (.ref fI))) (tI:PySem.W.typeIn X.K (.ref fI)=some (.type "function"))
  (F1:FnOk X.prog X.w X.K X.mg X.base CX k fI fd ps sp) (hr:Room (k+1) X.A) (hb:Binds X.K fd ps ds) (hd:Vals dvs ds) (hx:Passes CX X (fun _ _ _=>False)) (hg:Gl X x) (hm:X.mg x=some (.ref C)) (ha:PA X (e::es) ta)
  (hdb:(x == ("__debug__":Str))=false:=by decide) (he:starEach (e::es) X.env=(false,eval e X.env)::starEach es X.env:=by rfl) (hpl:(backTo pos (starEach es X.env)).any (·.1)=false:=by rfl) :
  PE X (.Call (.Name x p) (e::es) [] pos) (ZjR C sp dvs ta):=by
 refine ⟨fun pins s σ H Q I h=>?_⟩
 obtain ⟨nm,q,N,bs,bm,sn,sub,ab,col,dd,k0,k1,k2,k3,k5,hC,hbm⟩:=T.cls
 refine wpAny_Call_Name_kw (ld_glob I hg hm ?_ hdb)
 refine PySem.W.callWith_K (h₀:=X.base) I.ok.mod.kin T.kC (thn (ha.run pos pins s σ H _ I h) fun us s1 ⟨vs,H1,I1,r1,hz,q1⟩=>⟨I1.kIn,?_⟩) he hpl
 show wpAny _ _ (call (.ref C) us) _ _ _
 obtain ⟨hp,g,dr,tk,os⟩:=s1
 have hsz:hp.objs.size≤hp.objs.size+1:=Nat.le_succ _
 have hn:H1 (hp.objs.size+1)=none:=I1.hok.fresh hsz
 have hq:=q1 (hp.objs.size+1) hn
 have kk:∀b o,hp.get? b=some o→((hp.push (PySem.W.kdv_tup us)).push (PySem.HandSPX.excO C hp.objs.size)).get? b=some o:=fun b o e=>Heap.get?_push_of_some _ (Heap.get?_push_of_some _ e)
 have hget:((hp.push (PySem.W.kdv_tup us)).push (PySem.HandSPX.excO C hp.objs.size)).get? (hp.objs.size+1)=some (PySem.HandSPX.excO C hp.objs.size):=by heap_get
 have I2:Inv X pins σ (upd H1 (hp.objs.size+1) (exo (hp.objs.size+1) C none)) ⟨(hp.push (PySem.W.kdv_tup us)).push (PySem.HandSPX.excO C hp.objs.size),g,dr,tk,os⟩ :=
  I1.laid (t':=tk) (a:=hp.objs.size+1) (o:=exo (hp.objs.size+1) C none) (h':=(hp.push (PySem.W.kdv_tup us)).push (PySem.HandSPX.excO C hp.objs.size)) kk hsz (exo_ok hget)
 have r2:Vals (V.ref (hp.objs.size+1)::(vs++dvs)) (Value.ref (hp.objs.size+1)::(us++ds)) := .cons rfl (r1.append hd)
 have hl:(Value.ref (hp.objs.size+1)::us++ds).length=ps.length:=by
  have e:=r2.length
  rw [F1.len _ _ _ _ hq] at e
  exact e.symm
 have hus:us.length≤sizeLine:=by
  rw [←Paired.length r1,sizeLine_eq]
  omega
 refine wpAny_call (PySem.HandSPX.call_own F.excBase_ValueError (fun Y=>PySem.HandSPX.refsVE_contains Y bm hbm) (I1.kIn _ _ hC) (PySem.W.looks_findIn I1.kIn iC) (fun self=>PySem.W.bind_fn I1.kIn self tI) hus
  (codeAny_mono (F1.run _ X.stack _ _ ⟨Value.ref (hp.objs.size+1)::us,[]⟩ (Value.ref (hp.objs.size+1)::(us++ds)) _ _ (fun _ _ _=>False) (hr.make C us []) (I2.env0.make C us []) (hb _ (Value.ref (hp.objs.size+1)::us) I2.kIn hl) r2 hq) fun r s' hq'=>?_))
 cases r with
 | error er=>exact hx pins σ _ _ er s' I2 hq'
 | ok fl =>
  cases fl with
  | ret u =>
   obtain ⟨v,H2,os2,bare2,un2,hok2,rv,ev,d,fs,ea,ed,q2⟩:=hq'
   subst ev
   obtain ⟨h2,g2,d2,t2,os'⟩:=s'
   obtain ⟨o,J⟩:=ZhL (d2:=d2) (t2:=t2) I2 un2 hok2 os2 bare2 ea ed
   exact ⟨rv,⟨.ref (hp.objs.size+1),_,J,rfl,q2 o⟩⟩
  | next=>exact False.elim hq'
  | brk=>exact False.elim hq'
  | cont=>exact False.elim hq'
theorem Zix {C:Addr} (T:OexC X.K C) (iC:PySem.W.findIn X.K (.ref C) "__init__"=some (some (.ref fI))) (tI:PySem.W.typeIn X.K (.ref fI)=some (.type "function"))
  (F1:FnOk X.prog X.w X.K X.mg X.base CX0 k fI fd [Str.ofString "self"] (Jf C)) (hr:Room (k+1) X.A) (hb:Binds X.K fd [Str.ofString "self"] []) (hg:Gl X x) (hm:X.mg x=some (.ref C)) (hdb:(x == ("__debug__":Str))=false:=by decide) :
  PE X (.Call (.Name x p) [] [] pos) (fun σ H Q=>∀a o,H a=none→Q (.ref a) (upd H a (.frz o (exo a C none)))):=by
 refine ⟨fun pins s σ H Q I q=>?_⟩
 obtain ⟨nm,qq,N,bs,bm,sn,sub,ab,col,dd,k0,k1,k2,k3,k5,hC,hbm⟩:=T.cls
 refine wpAny_Call_Name_kw (ld_glob I hg hm ?_ hdb)
 refine PySem.W.callWith_K0 I.kIn T.kC ?_
 show wpAny _ _ (call (.ref C) []) _ _ _
 obtain ⟨hp,g,dr,tk,os⟩:=s
 have hsz:hp.objs.size≤hp.objs.size+1:=Nat.le_succ _
 have hn:H (hp.objs.size+1)=none:=I.hok.fresh hsz
 have kk:∀b o,hp.get? b=some o→((hp.push (PySem.W.kdv_tup [])).push (PySem.HandSPX.excO C hp.objs.size)).get? b=some o:=fun b o e=>Heap.get?_push_of_some _ (Heap.get?_push_of_some _ e)
 have hget:((hp.push (PySem.W.kdv_tup [])).push (PySem.HandSPX.excO C hp.objs.size)).get? (hp.objs.size+1)=some (PySem.HandSPX.excO C hp.objs.size):=by heap_get
 have I2:Inv X pins σ (upd H (hp.objs.size+1) (exo (hp.objs.size+1) C none)) ⟨(hp.push (PySem.W.kdv_tup [])).push (PySem.HandSPX.excO C hp.objs.size),g,dr,tk,os⟩ :=
  I.laid (t':=tk) (a:=hp.objs.size+1) (o:=exo (hp.objs.size+1) C none) (h':=(hp.push (PySem.W.kdv_tup [])).push (PySem.HandSPX.excO C hp.objs.size)) kk hsz (exo_ok hget)
 refine wpAny_call (PySem.HandSPX.call_own F.excBase_ValueError (fun Y=>PySem.HandSPX.refsVE_contains Y bm hbm) (I.kIn _ _ hC) (PySem.W.looks_findIn I.kIn iC) (fun self=>PySem.W.bind_fn I.kIn self tI) (by rw [sizeLine_eq];decide)
  (codeAny_mono (F1.run _ X.stack _ _ ⟨[Value.ref (hp.objs.size+1)],[]⟩ [Value.ref (hp.objs.size+1)] [V.ref (hp.objs.size+1)] (fun v H2=>v = .non∧H2=upd H (hp.objs.size+1) (exo (hp.objs.size+1) C none)) (fun _ _ _=>False) (hr.make C [] []) (I2.env0.make C [] []) (hb _ [Value.ref (hp.objs.size+1)] I2.kIn rfl) (.cons rfl .nil) ⟨_,rfl,upd_same,rfl,rfl⟩) fun r s' hq'=>?_))
 cases r with
 | error er=>exact pass0 pins σ _ _ er s' I2 hq'
 | ok fl =>
  cases fl with
  | ret u =>
   obtain ⟨v,H2,os2,bare2,un2,hok2,rv,ev,eh⟩:=hq'
   subst ev eh
   obtain ⟨h2,g2,d2,t2,os'⟩:=s'
   have J:Inv X pins σ (upd H (hp.objs.size+1) (exo (hp.objs.size+1) C none)) ⟨h2,g2,d2,t2,os'⟩:=I2.call' (ch:=[]) os2 un2 hok2 bare2 (fun b z=>absurd z (by simp))
   obtain ⟨o,K⟩:=Inv.lock J upd_same True.intro
   rw [upd_upd] at K
   exact ⟨rv,⟨.ref (hp.objs.size+1),_,K,rfl,q _ o hn⟩⟩
  | next=>exact False.elim hq'
  | brk=>exact False.elim hq'
  | cont=>exact False.elim hq'
/-- an exception as a value,by its fields -/
def Zv (C:Str) (ns:List Str) (fl:FI):FE:=fun ρ m=>(fl ρ m).bind fun ds m1=>if ds.length=ns.length then .ok (.exv C (ns.zip ds).reverse.unzip.1 (ns.zip ds).reverse.unzip.2) m1 else .stuck
theorem Yb {C:Str} (T:XcT X.K Ca) (hm:X.mg C=some (.ref Ca)) (iC:PySem.W.findIn X.K (.ref Ca) "__init__"=some (some (.ref fI))) (tI:PySem.W.typeIn X.K (.ref fI)=some (.type "function"))
  (F1:FnOk X.prog X.w X.K X.mg X.base CX0 k fI fd (Str.ofString "self"::ns) (spX Ca ns)) (hr:Room (k+1) X.A) (hb:Binds X.K fd (Str.ofString "self"::ns) []) (ha:DA X W (e::es) fl)
  (hn:ns.length≤1000:=by decide) (hg:Gl X C:=by rfl) (hdb:(C == ("__debug__":Str))=false:=by decide) (he:starEach (e::es) X.env=(false,eval e X.env)::starEach es X.env:=by rfl) (hpl:(backTo pos (starEach es X.env)).any (·.1)=false:=by rfl) :
  DE X W (.Call (.Name C p) (e::es) [] pos) (Zv C ns fl):=fun c ρ m σ H Q r s w=>by
 refine Z9 (Ziw T.oex iC tI F1 hr hb .nil pass0 hg hm Jc hdb he hpl) ?_
 refine ha.HW r s w fun ds m1 c1 vs H1 r1 s1 g1 h1 w1=>?_
 by_cases hl:ds.length=ns.length
 ·rw [if_pos hl] at w1
  have hlv:vs.length=ns.length:=by rw [h1.length];exact hl
  refine ⟨by omega,fun a ha=>⟨a,vs++[],rfl,by rw [List.append_nil];exact hlv,upd_same,fun d H' hd hne ha' hd' hrest=>⟨rfl,d,_,ha',hd',fun o=>?_⟩⟩⟩
  have hd1:H1 d=none:=by rw [upd_ne hne] at hd;exact hd
  rw [List.append_nil]
  have eH:upd (upd H' a (.frz o (exo a Ca (some d)))) d (.xd (ns.zip vs).reverse)=upd (upd H1 d (.xd (ns.zip vs).reverse)) a (.frz o (exo a Ca (some d))):=by
   funext b
   by_cases hbd:b=d
   ·rw [hbd,upd_same,upd_ne hne,upd_same]
   ·rw [upd_ne hbd]
    by_cases hba:b=a
    ·rw [hba,upd_same,upd_same]
    ·rw [upd_ne hba,upd_ne hba,upd_ne hbd,hrest b hba hbd,upd_ne hba]
  rw [eH]
  have g:Gd X.kw c1 c1 m1 H1 (upd H1 d (.xd (ns.zip vs).reverse)):=r1.lay hd1
  have hna:(upd H1 d (.xd (ns.zip vs).reverse)) a=none:=by rw [upd_ne (Ne.symm hne)];exact ha
  have g2:Gd X.kw c1 c1 m1 _ (upd (upd H1 d (.xd (ns.zip vs).reverse)) a (.frz o (exo a Ca (some d)))):=g.rel.lay hna
  have gg:=g.trans g2
  refine w1 c1 _ _ gg ?_
  unfold VD
  refine ⟨a,o,Ca,some d,(ns.zip vs).reverse,rfl,hm,upd_same,.inr ⟨d,rfl,by rw [upd_ne hne,upd_same],?_⟩,?_⟩
  ·rw [List.unzip_fst,List.map_reverse,List.map_reverse,Ze2 hlv.symm,Ze2 hl.symm]
  ·rw [List.unzip_snd,List.map_reverse,List.map_reverse,Ze3 hlv.symm,Ze3 hl.symm]
   exact (gg.vds h1).reverse
 ·rw [if_neg hl] at w1
  exact w1.elim
def Yd (C:Str):FE:=fun ρ m => .ok (.exv C [] []) m
theorem J8 {C:Str} (T:XcT X.K Ca) (hm:X.mg C=some (.ref Ca)) (iC:PySem.W.findIn X.K (.ref Ca) "__init__"=some (some (.ref fI))) (tI:PySem.W.typeIn X.K (.ref fI)=some (.type "function"))
  (F1:FnOk X.prog X.w X.K X.mg X.base CX0 k fI fd [Str.ofString "self"] (Jf Ca)) (hr:Room (k+1) X.A) (hb:Binds X.K fd [Str.ofString "self"] [])
  (hg:Gl X C:=by rfl) (hdb:(C == ("__debug__":Str))=false:=by decide) :
  DE X W (.Call (.Name C p) [] [] pos) (Yd C):=fun c ρ m σ H Q r s w=>by
 refine Z9 (Zix T.oex iC tI F1 hr hb hg hm hdb) fun a o hn=>?_
 have g:Gd X.kw c c m H (upd H a (.frz o (exo a Ca none))):=r.lay hn
 refine w c _ _ g ?_
 unfold VD
 exact ⟨a,o,Ca,none,[],rfl,hm,upd_same,.inl ⟨rfl,rfl,rfl⟩,rfl⟩
end
end L2.Dn
namespace L2.Dn
open PySem PySem.Spec PyProof.Rows L2
section
variable {X:Cx} {W:WX} {e:Expr} {es:List Expr} {fl:FI} {pos p:Pos} {x:Str} {Ca:Addr} {ta:TA}
theorem Zd5 {pins:List (Addr×Obj)} {σ:St} {H1:Hp} {s1:Shared} {h':Heap} {a C:Addr} {rest:List Value} (I1:Inv X pins σ H1 s1) (hm:Heap.MadeExcOf s1.heap h' a (.ref C) rest):H1 a=none∧∃o,Inv X pins σ (upd H1 a (.frz o (exo a C none))) { s1 with heap:=h' }:=by
 have hn:H1 a=none:=I1.hok.gone hm.new
 obtain ⟨t,ht,_,_⟩:=hm.there
 have J:Inv X pins σ (upd H1 a (exo a C none)) { s1 with heap:=h' }:=I1.laidN hm.keeps hm.new hn (exo_ok ht)
 obtain ⟨o,K⟩:=Inv.lock J upd_same True.intro
 rw [upd_upd] at K
 exact ⟨hn,o,K⟩
theorem Ziv {C:Addr} {bmB:List Value} {B newId initId:String} (F:ExcBaseFacts B newId initId bmB) (q:PySem.W.excIn X.K C bmB newId=true) (gC:X.mg x=some (.ref C)) (kC:PySem.W.keepIn X.K (.ref C)=true) (hg:Gl X x)
  (ha:PA X (e::es) ta) (hdb:(x == ("__debug__":Str))=false:=by decide) (he:starEach (e::es) X.env=(false,eval e X.env)::starEach es X.env:=by rfl) (hpl:(backTo pos (starEach es X.env)).any (·.1)=false:=by rfl) :
  PE X (.Call (.Name x p) (e::es) [] pos) (fun σ H Q=>ta σ H fun vs H1=>vs.length≤1000∧∀a o,H1 a=none→Q (.ref a) (upd H1 a (.frz o (exo a C none)))):=by
 refine ⟨fun pins s σ H Q I h=>?_⟩
 refine wpAny_Call_Name_kw (ld_glob I hg gC ?_ hdb)
 refine PySem.W.callWith_K (h₀:=X.base) I.ok.mod.kin kC (thn (ha.run pos pins s σ H _ I h) fun us s1 ⟨vs,H1,I1,r1,hz,q1⟩=>⟨I1.kIn,?_⟩) he hpl
 show wpAny _ _ (call (.ref C) us) _ _ _
 obtain ⟨bm,N,nm,qn,bs,hdct,sn,sub,ab,col,dd,k0,k1,k2,k3,k5,mN,hC,hN,hni,T⟩:=exc_obj I1.kIn q
 have hus:us.length≤sizeLine:=by
  rw [←Paired.length r1,sizeLine_eq]
  omega
 obtain ⟨hp,g,dr,tk,os⟩:=s1
 refine wpAny_call_exc_subT F T hC hN hni (fun h' a hm=>?_) hus
 obtain ⟨hn,o,K⟩:=Zd5 I1 hm
 exact ⟨.ref a,_,K,rfl,q1 a o hn⟩
theorem Ziu {C:Addr} {bmB:List Value} {B newId initId:String} (F:ExcBaseFacts B newId initId bmB) (q:PySem.W.excIn X.K C bmB newId=true) (gC:X.mg x=some (.ref C)) (kC:PySem.W.keepIn X.K (.ref C)=true) (hg:Gl X x) (hdb:(x == ("__debug__":Str))=false:=by decide) :
  PE X (.Call (.Name x p) [] [] pos) (fun σ H Q=>∀a o,H a=none→Q (.ref a) (upd H a (.frz o (exo a C none)))):=by
 refine ⟨fun pins s σ H Q I h=>?_⟩
 refine wpAny_Call_Name_kw (ld_glob I hg gC ?_ hdb)
 refine PySem.W.callWith_K0 I.kIn kC ?_
 show wpAny _ _ (call (.ref C) []) _ _ _
 obtain ⟨bm,N,nm,qn,bs,hdct,sn,sub,ab,col,dd,k0,k1,k2,k3,k5,mN,hC,hN,hni,T⟩:=exc_obj I.kIn q
 obtain ⟨hp,g,dr,tk,os⟩:=s
 refine wpAny_call_exc_subT F T hC hN hni (fun h' a hm=>?_) (by rw [sizeLine_eq];decide)
 obtain ⟨hn,o,K⟩:=Zd5 I hm
 exact ⟨.ref a,_,K,rfl,h a o hn⟩
/-- the base class of the module's exceptions: over ValueError,without an __init__ of its own -/
def Za0 (K:PySem.W.Frag) (Ca:Addr):Prop:=∃bmB B newId initId,ExcBaseFacts B newId initId bmB∧PySem.W.excIn K Ca bmB newId=true∧PySem.W.keepIn K (.ref Ca)=true
def Yu (C:Str) (fl:FI):FE:=fun ρ m=>(fl ρ m).bind fun ds m1=>if ds.length≤1000 then .ok (.exv C [] []) m1 else .stuck
theorem Zdi {C:Str} (T:Za0 X.K Ca) (hm:X.mg C=some (.ref Ca)) (ha:DA X W (e::es) fl)
  (hg:Gl X C:=by rfl) (hdb:(C == ("__debug__":Str))=false:=by decide) (he:starEach (e::es) X.env=(false,eval e X.env)::starEach es X.env:=by rfl) (hpl:(backTo pos (starEach es X.env)).any (·.1)=false:=by rfl) :
  DE X W (.Call (.Name C p) (e::es) [] pos) (Yu C fl):=fun c ρ m σ H Q r s w=>by
 obtain ⟨bmB,B,newId,initId,F,q,kC⟩:=T
 refine Z9 (Ziv F q hm kC hg Jc hdb he hpl) (ha.HW r s w fun ds m1 c1 vs H1 r1 s1 g1 h1 w1=>?_)
 by_cases hl:ds.length≤1000
 ·rw [if_pos hl] at w1
  refine ⟨by rw [h1.length];exact hl,fun a o hn=>?_⟩
  have g:Gd X.kw c1 c1 m1 H1 (upd H1 a (.frz o (exo a Ca none))):=r1.lay hn
  refine w1 c1 _ _ g ?_
  unfold VD
  exact ⟨a,o,Ca,none,[],rfl,hm,upd_same,.inl ⟨rfl,rfl,rfl⟩,rfl⟩
 ·rw [if_neg hl] at w1
  exact w1.elim
theorem ZfC {C:Str} (T:Za0 X.K Ca) (hm:X.mg C=some (.ref Ca)) (hg:Gl X C:=by rfl) (hdb:(C == ("__debug__":Str))=false:=by decide):DE X W (.Call (.Name C p) [] [] pos) (Yd C):=fun c ρ m σ H Q r s w=>by
 obtain ⟨bmB,B,newId,initId,F,q,kC⟩:=T
 refine Z9 (Ziu F q hm kC hg hdb) fun a o hn=>?_
 have g:Gd X.kw c c m H (upd H a (.frz o (exo a Ca none))):=r.lay hn
 refine w c _ _ g ?_
 unfold VD
 exact ⟨a,o,Ca,none,[],rfl,hm,upd_same,.inl ⟨rfl,rfl,rfl⟩,rfl⟩
end
section
variable {K:PySem.W.Frag} {A C:Addr} {bm:List Value}
/-- the classes that stand behind a class -/
def Vw (K:PySem.W.Frag) (A:Addr) (bm:List Value):Prop:=(∃cd,PySem.W.clsIn K A=some cd∧cd.mro = .ref A::bm)∧PySem.W.typeIn K (.ref A)=some (.type "type")
theorem kit_of (hA:Vw K A bm) (hC:∃bm',Vw K C bm'):PySem.W.kitOne K (.ref A) (.ref C)=some (decide (A=C) || bm.contains (.ref C)):=by
 obtain ⟨⟨cd,e1,e2⟩,e3⟩:=hA
 obtain ⟨bm',⟨cd',f1,f2⟩,f3⟩:=hC
 unfold PySem.W.kitOne
 by_cases h:A=C
 ·subst h
  rw [if_pos (by exact beq_self_eq_true _),decide_eq_true rfl]
  rfl
 ·have ne:((Value.ref A) == (Value.ref C))=false:=beq_eq_false_iff_ne.mpr fun z=>h (by cases z;rfl)
  rw [if_neg (by rw [ne];exact Bool.false_ne_true),decide_eq_false h]
  show PySem.W.kitCls K (.ref A) (.ref C)=_
  unfold PySem.W.kitCls
  dsimp only
  rw [if_pos (by rw [f1,f3];rfl)]
  show PySem.W.mroIn K A (.ref C)=_
  unfold PySem.W.mroIn
  rw [e1]
  show (if cd.mro.isEmpty then none else some (cd.mro.contains (.ref C)))=_
  rw [e2,if_neg (by exact Bool.false_ne_true),List.contains_cons]
  congr 2
  exact beq_eq_false_iff_ne.mpr fun z=>h (by cases z;rfl)
theorem Zhl (hA:Vw K A bm) (h:bm.contains (.type "ValueError")=true):PySem.W.kitOne K (.ref A) (.type "ValueError")=some true:=by
 obtain ⟨⟨cd,e1,e2⟩,e3⟩:=hA
 unfold PySem.W.kitOne
 rw [if_neg (by intro z;cases (eq_of_beq z))]
 show PySem.W.kitCls K (.ref A) (.type "ValueError")=_
 unfold PySem.W.kitCls
 dsimp only
 rw [if_pos (by decide +kernel)]
 show PySem.W.mroIn K A (.type "ValueError")=_
 unfold PySem.W.mroIn
 rw [e1]
 show (if cd.mro.isEmpty then none else some (cd.mro.contains (.type "ValueError")))=_
 rw [e2,if_neg (by exact Bool.false_ne_true),List.contains_cons,h,Bool.or_true]
end
/-- the classes of a module's exceptions,their addresses,what stands behind each -/
structure qub (K:PySem.W.Frag) (mg:Str→Option Value) (tbl:List (Str×Addr×List Value)):Prop where
 one:∀q∈tbl,mg q.1=some (.ref q.2.1)∧XcT K q.2.1∧Vw K q.2.1 q.2.2∧q.2.2.contains (.type "ValueError")=true
/-- each is of its own class alone -/
def ZG (tbl:List (Str×Addr×List Value)) (C:Str×Addr):Bool:=tbl.all fun q=>decide (q.2.1=C.2) == decide (q.1=C.1) && !q.2.2.contains (.ref C.2)
theorem ZS {K:PySem.W.Frag} {mg:Str→Option Value} {tbl:List (Str×Addr×List Value)} (h:qub K mg tbl) {C:Str×Addr×List Value} (hC:C∈tbl) (ha:ZG tbl (C.1,C.2.1)=true):∀q∈tbl.map (fun z=>(z.1,decide (z.1=C.1))),∃Ca,mg q.1=some (.ref Ca)∧IsX K Ca C.2.1 q.2:=by
 intro q hq
 obtain ⟨z,hz,rfl⟩:=List.mem_map.mp hq
 obtain ⟨g1,g2,g3,_⟩:=h.one z hz
 obtain ⟨_,_,f3,_⟩:=h.one C hC
 have:=List.all_eq_true.mp ha z hz
 rw [Bool.and_eq_true,beq_iff_eq,Bool.not_eq_true'] at this
 refine ⟨z.2.1,g1,g2,?_⟩
 rw [kit_of g3 ⟨_,f3⟩]
 have e1:decide (z.2.1=C.2.1)=decide (z.1=C.1):=this.1
 have e2:z.2.2.contains (.ref C.2.1)=false:=this.2
 rw [e1,e2,Bool.or_false]
theorem Zhi {K:PySem.W.Frag} {mg:Str→Option Value} {tbl:List (Str×Addr×List Value)} (h:qub K mg tbl) {P:Addr} (hP:∃bm,Vw K P bm) (ha:(tbl.all fun q=>decide (q.2.1=P) || q.2.2.contains (.ref P))=true):∀q∈tbl.map (fun z=>(z.1,true)),∃Ca,mg q.1=some (.ref Ca)∧IsX K Ca P q.2:=by
 intro q hq
 obtain ⟨z,hz,rfl⟩:=List.mem_map.mp hq
 obtain ⟨g1,g2,g3,_⟩:=h.one z hz
 refine ⟨z.2.1,g1,g2,?_⟩
 rw [kit_of g3 hP,List.all_eq_true.mp ha z hz]
/-- isinstance(e,C) of exceptions alone -/
def Zk (C:Str) (lx:List (Str×Bool)):List D→Store→OD
 | [d,.fn x],m=>if x=C then match Jq d with
  | some E=>(lx.lookup E).map fun b=>(.p (.bool b),m)
  | none=>none else none
 | _,_=>none
/-- isinstance(e,ValueError) -/
def Wm (ns:List Str):List D→Store→OD
 | [d,.ty "ValueError"],m=>match Jq d with
  | some E=>if E∈ns then some (.p (.bool true),m) else none
  | none=>none
 | _,_=>none
section
variable {X:Cx}
theorem Zdy {pins:List (Addr×Obj)} {σ:St} {H:Hp} {s:Shared} {c:Anc} {d:D} {E:Str} {v:V} {u w:Value} {b:Bool} {Q:VK} {Ca:Addr} (I:Inv X pins σ H s) (hv:VD X.kw H c v d) (ru:RelV v u) (q0:Jq d=some E) (k1:X.mg E=some (.ref Ca)) (T:XcT X.K Ca) (k3:PySem.W.kitOne X.K (.ref Ca) w=some b)
  (q:Q (.bl b) H):wpAny (model X.prog X.w) X.A (call (.builtin "isinstance") [u,w]) (EP X pins σ Q) X.xe s:=by
 have fin:∀tk,EP X pins σ Q (.bool b) { s with toks:=tk }:=fun tk=>⟨.bl b,H,I.tok tk,rfl,q⟩
 have go:∀{a:Addr} {o:Obj} {od:Option Obj},PySem.W.InstAt s.heap a o Ca od→wpAny (model X.prog X.w) X.A (call (.builtin "isinstance") [.ref a,w]) (EP X pins σ Q) X.xe s:=fun J =>
  PySem.W.kia_one (PySem.W.kitx_exc (by obtain ⟨cd,hc,_⟩:=PySem.W.any_some T.ec.hd;rw [hc];rfl) T.ec.hg T.ec.hk T.ec.hs T.ec.ha T.ec.hn T.ec.ht T.ec.hm) I.kIn J k3 (fun z=>nomatch z) fin
 cases d with
 | exn C' ns xs =>
  cases q0
  unfold VD at hv
  obtain ⟨a,oe,Ca',dd,fs,h1,rfl,h3,h4,⟨vs,h5⟩,h6,h7⟩:=hv
  cases ru
  have:=h3.symm.trans k1
  cases this
  have ha:=Zdz I h1
  rcases h6 with ⟨_,e0,_⟩ | ⟨dx,rfl,hx,hn⟩
  ·subst e0
   exact go (od:=none) ⟨ha,h4.1,by unfold PySem.W.notCls;rw [h5] <;> rfl,by rw [h4.2];trivial⟩
  ·obtain ⟨mA,hns,hr⟩:=(show ObjOk X.prog X.w H s.heap dx (.xd fs) from I.hok dx _ hx)
   obtain ⟨od,ho,hlk⟩:=lookIn_ns hns
   exact go (od:=some od) ⟨ha,h4.1,by unfold PySem.W.notCls;rw [h5] <;> rfl,by rw [h4.2];exact ho⟩
 | exv C' ns xs =>
  cases q0
  unfold VD at hv
  obtain ⟨a,oe,Ca',dd,fs,rfl,h3,h4,h6,h7⟩:=hv
  cases ru
  have:=h3.symm.trans k1
  cases this
  obtain ⟨ha,hc,hdd,vs,h5⟩:=ZdA I h4
  rcases h6 with ⟨_,e0,_⟩ | ⟨dx,rfl,hx,hn⟩
  ·subst e0
   exact go (od:=none) ⟨ha,hc,by unfold PySem.W.notCls;rw [h5] <;> rfl,by rw [hdd];trivial⟩
  ·obtain ⟨mA,hns,hr⟩:=(show ObjOk X.prog X.w H s.heap dx (.xd fs) from I.hok dx _ hx)
   obtain ⟨od,ho,hlk⟩:=lookIn_ns hns
   exact go (od:=some od) ⟨ha,hc,by unfold PySem.W.notCls;rw [h5] <;> rfl,by rw [hdd];exact ho⟩
 | _=>cases q0
theorem ZJ {C:Str} {Cb:Addr} {lx:List (Str×Bool)} (hC:X.mg C=some (.ref Cb)) (hx:∀q∈lx,∃Ca,X.mg q.1=some (.ref Ca)∧IsX X.K Ca Cb q.2):CallR X (.builtin "isinstance") (Jd X.kw (Zk C lx)):=by
 intro pins s σ H xs us Q I rv h
 obtain ⟨c,m,ds,r,hv,w⟩:=h
 unfold Zk at w
 split at w
 ·rename_i d x
  split at w
  ·rename_i ex
   subst ex
   cases q0:Jq d with
   | none=>rw [q0] at w;exact w.elim
   | some E =>
    rw [q0] at w
    dsimp only at w
    cases q1:lx.lookup E with
    | none=>rw [q1] at w;exact w.elim
    | some b =>
     rw [q1] at w
     obtain ⟨Ca,k1,T,k3⟩:=hx _ (lookup_mem q1)
     obtain ⟨v,v',rfl,h1,h3⟩:=VDs.two hv
     obtain ⟨u1,u2,rfl,r1,r2⟩:=vals2 rv
     unfold VD at h3
     obtain ⟨a,g1,rfl⟩:=h3
     cases r2
     have:=g1.symm.trans hC
     cases this
     exact Zdy I h1 r1 q0 k1 T k3 (w.now r (VD.bl.mpr rfl))
  ·exact w.elim
 ·exact w.elim
theorem Zdb {ns:List Str} (hx:∀E∈ns,∃Ca,X.mg E=some (.ref Ca)∧XcT X.K Ca∧PySem.W.kitOne X.K (.ref Ca) (.type "ValueError")=some true):CallR X (.builtin "isinstance") (Jd X.kw (Wm ns)):=by
 intro pins s σ H xs us Q I rv h
 obtain ⟨c,m,ds,r,hv,w⟩:=h
 unfold Wm at w
 split at w
 ·rename_i d
  cases q0:Jq d with
  | none=>rw [q0] at w;exact w.elim
  | some E =>
   rw [q0] at w
   dsimp only at w
   split at w
   ·rename_i hE
    obtain ⟨Ca,k1,T,k3⟩:=hx _ hE
    obtain ⟨v,v',rfl,h1,h3⟩:=VDs.two hv
    obtain ⟨u1,u2,rfl,r1,r2⟩:=vals2 rv
    unfold VD at h3
    subst h3
    cases r2
    exact Zdy I h1 r1 q0 k1 T k3 (w.now r (VD.bl.mpr rfl))
   ·exact w.elim
 ·exact w.elim
theorem Zhe {K:PySem.W.Frag} {mg:Str→Option Value} {tbl:List (Str×Addr×List Value)} (h:qub K mg tbl):∀E∈tbl.map (·.1),∃Ca,mg E=some (.ref Ca)∧XcT K Ca∧PySem.W.kitOne K (.ref Ca) (.type "ValueError")=some true:=by
 intro E hE
 obtain ⟨z,hz,rfl⟩:=List.mem_map.mp hE
 obtain ⟨g1,g2,g3,g4⟩:=h.one z hz
 exact ⟨z.2.1,g1,g2,Zhl g3 g4⟩
end
end L2.Dn
namespace L2.Dn
open PySem PySem.Spec PyProof.Rows L2
def smD:Nat→D→Bool
 | _,.p p=>decide (p.depth≤30)
 | _,.cell _=>true
 | n+1,.lst xs=>xs.all (smD n)
 | _,_=>false
section
variable {X:Cx} {pins:List (Addr×Obj)} {σ:St} {H:Hp} {s:Shared} {c:Anc}
def U4 (X:Cx) (H:Hp) (c:Anc) (s:Shared) (A:Around) (d:D):Prop:=∀(v v':V) (u u':Value),VD X.kw H c v d→VD X.kw H c v' d→RelV v u→RelV v' u'→SeqAt.EqP X.prog X.w A s u u' true
theorem ZeI {A:Around}:∀{ds:List D} {vs vs':List V} {us us':List Value},(∀d∈ds,U4 X H c s A d)→VDs X.kw H c vs ds→VDs X.kw H c vs' ds→Vals vs us→Vals vs' us'→∀j (h1:j < us.length) (h2:j < us'.length),SeqAt.EqP X.prog X.w A s us[j] us'[j] true
 | [],vs,_,us,_,_,a,b,r,_,j,h1,_=>by
  unfold VDs at a
  subst a
  cases r
  exact absurd h1 (Nat.not_lt_zero j)
 | d::ds,vs,vs',us,us',ih,a,b,r1,r2,j,h1,h2=>by
  unfold VDs at a b
  obtain ⟨v,t,rfl,a1,a2⟩:=a
  obtain ⟨v',t',rfl,b1,b2⟩:=b
  cases r1 with
  | cons q1 t1 =>
   cases r2 with
   | cons q2 t2 =>
    cases j with
    | zero=>exact ih d (List.mem_cons_self ..) _ _ _ _ a1 b1 q1 q2
    | succ j=>exact ZeI (fun e he=>ih e (List.mem_cons_of_mem _ he)) a2 b2 t1 t2 j (Nat.lt_of_succ_lt_succ h1) (Nat.lt_of_succ_lt_succ h2)
theorem ZeB {A:Around} (I:Inv X pins σ H s) (hu:A.units+9 < cLine) {xs:List D} (ih:∀d∈xs,U4 X H c s A.in1 d) {v v':V} {u u':Value} (h:VD X.kw H c v (.lst xs)) (h':VD X.kw H c v' (.lst xs)) (ru:RelV v u) (ru':RelV v' u') :
  ∃a b,u = .ref a∧u' = .ref b∧∀(E Q:Value→Shared→Prop),Q (.bool true) s→wpAny (model X.prog X.w) A (richCompare .Eq (.ref a) (.ref b)) Q E s:=by
 unfold VD at h h'
 obtain ⟨a,vs,rfl,f,d1⟩:=h
 obtain ⟨b,vs',rfl,f',d2⟩:=h'
 cases ru;cases ru'
 obtain ⟨_,us,m,rv,e⟩:=f.rd.obj I
 obtain ⟨_,us',m',rv',e'⟩:=f'.rd.obj I
 refine ⟨_,_,rfl,rfl,fun E Q q=>?_⟩
 have sz:us.toArray.size=us'.toArray.size:=by rw [List.size_toArray,List.size_toArray,←rv.length,←rv'.length,VDs.length d1,VDs.length d2]
 refine SeqAt.rcP_lists (e:=fun _=>true) ⟨_,e,rfl,_,rfl⟩ ⟨_,e',rfl,_,rfl⟩ sz (by omega) (fun j h1 h2=>?_) E Q ?_
 ·have:=ZeI (A:=A.in1) ih d1 d2 rv rv' j (by simpa using h1) (by simpa using h2)
  simpa using this
 ·rw [show ((List.range us.toArray.size).all fun _=>true)=true from List.all_eq_true.mpr fun _ _=>rfl]
  exact q
theorem ZeF {A:Around} (I:Inv X pins σ H s) (hu:A.units+45 < cLine) {p:PyData} (hp:p.depth≤30):U4 X H c s A (.p p):=fun v v' u u' h h' ru ru'=>by
 unfold VD at h h'
 exact ZeH I 30 A (by omega) p hp v v' u u' h h' ru ru'
theorem ZeE {A:Around} {i:Ix}:U4 X H c s A (.cell i):=fun v v' u u' h h' ru ru'=>by
 unfold VD at h h'
 obtain ⟨a,ha,rfl⟩:=h
 obtain ⟨b,hb,rfl⟩:=h'
 have:=ha.symm.trans hb
 cases this
 cases ru;cases ru'
 exact (SeqAt.EqAt.same _).eqP
theorem ZiL (I:Inv X pins σ H s):∀(n:Nat) (A:Around),A.units+n+46 < cLine→∀d:D,smD n d=true→U4 X H c s A d:=by
 intro n
 induction n with
 | zero =>
  intro A hu d hd
  cases d with
  | p p=>exact ZeF I (by omega) (of_decide_eq_true (by simpa [smD] using hd))
  | cell i=>exact ZeE
  | _=>exact absurd hd (by simp [smD])
 | succ n ih =>
  intro A hu d hd
  cases d with
  | p p=>exact ZeF I (by omega) (of_decide_eq_true (by simpa [smD] using hd))
  | cell i=>exact ZeE
  | lst xs =>
   have hd:=List.all_eq_true.mp (show xs.all (smD n)=true by simpa [smD] using hd)
   intro v v' u u' h h' ru ru'
   obtain ⟨a,b,rfl,rfl,k⟩:=ZeB I (A:=A) (by omega) (fun d hx=>ih A.in1 (by show A.units+1+n+46 < cLine;omega) d (hd d hx)) h h' ru ru'
   exact ZeG fun _=>k
  | _=>exact absurd hd (by simp [smD])
end
open Classical in
noncomputable def Vg (x y:D) (m:Store):OD:=match x with
 | .lst xs=>if y = .lst xs∧xs.all (smD 6)=true then some (.p (.bool true),m) else none
 | _=>none
section
variable {X:Cx}
theorem Zib (hu:X.A.units+66 < cLine):OpR X (compareOp .Eq) (rOf X.kw Vg):=by
 intro pins s σ H x y v u Q I rx ry h
 obtain ⟨c,m,dx,dy,r,h1,h2,w⟩:=h
 unfold Vg at w
 split at w
 ·rename_i xs
  split at w
  ·rename_i hc
   obtain ⟨rfl,hd⟩:=hc
   have hd:=List.all_eq_true.mp hd
   obtain ⟨a,b,rfl,rfl,k⟩:=ZeB I (A:=X.A) (by omega) (fun d hx=>ZiL I 6 X.A.in1 (by show X.A.units+1+6+46 < cLine;omega) d (hd d hx)) h1 h2 rx ry
   exact k _ _ ⟨.bl _,H,I,rfl,w.now r (VD.bl.mpr rfl)⟩
  ·exact w.elim
 ·exact w.elim
noncomputable def Jp:D→D→Store→OD:=ZX Vg (ZX Vf (eqG false))
theorem Zeh (hr:X.A.units+66 < cLine) (hg:OpR X (compareOp .Eq) (rOf X.kw (eqG false))):OpR X (compareOp .Eq) (rOf X.kw Jp):=OpR.alt (Zib hr) (OpR.alt (Zh8 hr) hg)
end
end L2.Dn
namespace L2.Dn
open PySem PySem.Spec PyProof.Rows L2
theorem ZD {K:PySem.W.Frag} {C:Addr} {bm:List Value} {nm q N bs sn sub ab col dd k0 k1 k2 k3 k5} (h:K.lookup C=some (excClassObj nm q C N bs bm true sn sub ab col dd k0 k1 k2 k3 k5 "ValueError.__new__")) (t:PySem.W.typeIn K (.ref C)=some (.type "type")):Vw K C bm :=
 ⟨⟨_,by unfold PySem.W.clsIn;rw [h] <;> rfl,rfl⟩,t⟩
theorem ZQ {bm:List Value} (h:PySem.HandSPX.refsVE bm=true):bm.contains (.type "ValueError")=true:=(PySem.HandSPX.refsVE_contains "ValueError" bm h).trans (by decide +kernel)
end L2.Dn
namespace K10
open PySem PySem.Spec PyProof.Rows L2 L2.Dn
def xns:List Str:=["PlanError","Wrong","BadKey","BadReference","BadMade","Ringed","Unknown","NotFixed","BadRow","Missing","BadItem","BadShown","BadMark","NoUse","Hidden","Loose","NoSite","Unlike","Parted","NoNumber","NoMove","Twice","TooMany","Full","Unfit","Nothing","NoEntry","NoText","NoCommand"]
def Zab:List (Str×Bool):=xns.map fun n=>(n,decide (n="BadItem"))
def Zac:List (Str×Bool):=xns.map fun n=>(n,decide (n="BadKey"))
def Zad:List (Str×Bool):=xns.map fun n=>(n,decide (n="BadMade"))
def Zae:List (Str×Bool):=xns.map fun n=>(n,decide (n="BadMark"))
def Zaf:List (Str×Bool):=xns.map fun n=>(n,decide (n="BadReference"))
def Zag:List (Str×Bool):=xns.map fun n=>(n,decide (n="BadRow"))
def Zah:List (Str×Bool):=xns.map fun n=>(n,decide (n="BadShown"))
def Zai:List (Str×Bool):=xns.map fun n=>(n,decide (n="Full"))
def Zaj:List (Str×Bool):=xns.map fun n=>(n,decide (n="Hidden"))
def Zak:List (Str×Bool):=xns.map fun n=>(n,decide (n="Loose"))
def Zal:List (Str×Bool):=xns.map fun n=>(n,decide (n="Missing"))
def Zam:List (Str×Bool):=xns.map fun n=>(n,decide (n="NoCommand"))
def Zan:List (Str×Bool):=xns.map fun n=>(n,decide (n="NoEntry"))
def Zao:List (Str×Bool):=xns.map fun n=>(n,decide (n="NoMove"))
def Zap:List (Str×Bool):=xns.map fun n=>(n,decide (n="NoNumber"))
def Zaq:List (Str×Bool):=xns.map fun n=>(n,decide (n="NoSite"))
def Zar:List (Str×Bool):=xns.map fun n=>(n,decide (n="NoText"))
def Zas:List (Str×Bool):=xns.map fun n=>(n,decide (n="NoUse"))
def Zat:List (Str×Bool):=xns.map fun n=>(n,decide (n="NotFixed"))
def Zau:List (Str×Bool):=xns.map fun n=>(n,decide (n="Nothing"))
def Zav:List (Str×Bool):=xns.map fun n=>(n,decide (n="Parted"))
def ZbT:List (Str×Bool):=xns.map fun n=>(n,true)
def Zaw:List (Str×Bool):=xns.map fun n=>(n,decide (n="Ringed"))
def Zax:List (Str×Bool):=xns.map fun n=>(n,decide (n="TooMany"))
def Zay:List (Str×Bool):=xns.map fun n=>(n,decide (n="Twice"))
def Zaz:List (Str×Bool):=xns.map fun n=>(n,decide (n="Unfit"))
def ZaA:List (Str×Bool):=xns.map fun n=>(n,decide (n="Unknown"))
def ZaB:List (Str×Bool):=xns.map fun n=>(n,decide (n="Unlike"))
def ZaC:List (Str×Bool):=xns.map fun n=>(n,decide (n="Wrong"))
noncomputable def Zc5:FS:=(retS (Zo .g (Za (cE (.int 0)) (Za (cE (.int 1234567891)) (Za (cE (.int 0)) (Za (lcE .z [1] (Jh (slE (slD .z) (vE 0) noO (someO (cE (.int 63))))) (Ju 1) Ji (Zf JX (Za (vE 1) Zb))) Zb))))))
noncomputable def Km:Den:=fnD 2 Zc5
noncomputable def Zji:FS:=(ifS (Z3 (opE (eqG false) (opE ixG (vE 0) (cE (.int 0))) (cE (.int 0)))) (Zi (Zm 2 (cE (.int 0)))
 (Zi (ifS (Z3 (opE ltI (opE ixG (vE 0) (cE (.int 2))) (Zf Ja (Za (opE ixG (vE 0) (cE (.int 3))) Zb)))) (Zm 2 (opE ixG (opE ixG (vE 0) (cE (.int 3))) (opE ixG (vE 0) (cE (.int 2))))) ZF)
 (Zi (Y8 Y7 (vE 0) (cE (.int 2)) (cE (.int 1)))
 (Zi (ifS (Z3 (opE geI (vE 2) (opE JP (cE (.int 10)) (cE (.int 18))))) (Yk (vE 2) (Yn setG (vE 0) (cE (.int 0)))) ZF)
 (Zi (Zm 3 (opE (Zq .z) (opE (Zq .z) (opE (Z7 .z) (opE ixG (vE 0) (cE (.int 1))) (cE (.int 48271))) (opE ZP (Zf intD (Za (vE 2) Zb)) (cE (.int 2147483647)))) (opE (Z7 .z) (cE (.int 7919)) (opE ixG (vE 0) (cE (.int 2))))))
 (Yk (opE ZP (Zf intD (Za (vE 3) Zb)) (cE (.int 2147483647))) (Yn setG (vE 0) (cE (.int 1))))))))) ZF)
noncomputable def Zjj:FS:=(ifS (Z3 (opE gtI (opE ixG (vE 0) (cE (.int 0))) (cE (.int 0)))) (Zi (Zm 4 (opE ZP (Zf intD (Za (opE ixG (vE 0) (cE (.int 0))) Zb)) (vE 1)))
 (Zi (Yk (opE Jr (Zf intD (Za (opE ixG (vE 0) (cE (.int 0))) Zb)) (vE 1)) (Yn setG (vE 0) (cE (.int 0))))
 (retS (vE 4)))) ZF)
noncomputable def Zjk:FS:=(Zm 5 (opE ZP (Zf intD (Za (opE (Z7 .z) (opE (Zq .z) (opE ixG (vE 0) (cE (.int 1))) (cE (.int 1))) (cE (.int 39373))) Zb)) (cE (.int 1000000007))))
noncomputable def Zjl:FS:=(Zm 6 (opE ZP (Zf intD (Za (opE (Z7 .z) (vE 6) (cE (.int 30011))) Zb)) (cE (.int 998244353))))
noncomputable def Zjm:FS:=(ifS (Z3 (opE gtI (vE 1) (cE (.int 1000000)))) (retS (opE ZP (Zf intD (Za (opE (Zq .z) (opE (Z7 .z) (vE 6) (cE (.int 1000000007))) (vE 5)) Zb)) (vE 1))) ZF)
noncomputable def Zc6:FS:=(Zi Zji
 (Zi Zjj
 (Zi Zjk
 (Zi (Zm 6 (opE ZP (Zf intD (Za (opE (Z7 .z) (vE 5) (vE 5)) Zb)) (cE (.int 998244353))))
 (Zi Zjl
 (Zi Zjm
 (retS (opE ZP (Zf intD (Za (opE Jr (vE 6) (cE (.int 7))) Zb)) (vE 1)))))))))
noncomputable def Ko:Den:=fnD 7 Zc6
noncomputable def W4:FS:=(retS (Za3 (opE Jp (vE 0) (vE 1)) (opE Jp (Zf V4 (Za (vE 0) Zb)) (Zf V4 (Za (vE 1) Zb)))))
noncomputable def U9:Den:=fnD 2 W4
theorem Zf6 (x0 x1:D) (g:List Cell):U9 [x0,x1] g=fin (W4 [some x0,some x1] ⟨g,[]⟩):=rfl
noncomputable def ZeN:FS:=(Zm 1 (Zo .z (Za (opE ZcF (Ys Ko (Za (vE 0) (Za (cE (.int 1000)) Zb))) (cE (.int 500))) (Za (opE JP (cE (.int 10)) (cE (.int 40))) (Za (cE (.str (Str.ofString "x"))) (Za (cE (.str (Str.ofString ""))) (Za (cE (.bool true)) (Za (cE .none) (Za (U3 (Za (cE (.int 1)) (Za (U3 (Za (cE (.int 2)) Zb)) Zb))) (Za (Zo .g (Za (cE (.int 3)) (Za (Zo .z (Za (cE (.int 4)) Zb)) Zb))) (Za (U8 .g (Kd (cE (.str (Str.ofString "a"))) (cE (.int 1)) ZaE)) (Za (Zo .g Zb) (Za (Zo .g (Za (cE (.str (Str.ofString "old"))) Zb)) Zb)))))))))))))
noncomputable def W9:FS:=(Zi ZeN
 (retS (opE ixG (vE 1) (Ys Ko (Za (vE 0) (Za (cE (.int 11)) Zb))))))
noncomputable def Kr:Den:=fnD 2 W9
theorem Zga (x0:D) (g:List Cell):Kr [x0] g=fin (W9 [some x0,none] ⟨g,[]⟩):=rfl
noncomputable def Zi8:FS:=(Zm 3 (Zo .z (Za (Zv "Parted" ["stream","index","word"] (Za (vE 0) (Za (vE 1) (Za (vE 2) Zb)))) (Za (Zv "Ringed" ["table","column"] (Za (vE 0) (Za (vE 1) Zb))) (Za (Zv "BadRow" ["table","at"] (Za (vE 0) (Za (vE 1) Zb))) (Za (Zv "Hidden" ["place","loop"] (Za (vE 0) (Za (vE 1) Zb))) (Za (Zv "NoSite" ["stream","index"] (Za (vE 0) (Za (vE 1) Zb))) Zb)))))))
noncomputable def Zi9:FS:=(Zm 3 (opE (Zq .z) (vE 3) (Zo .z (Za (Zv "Wrong" ["place"] (Za (vE 0) Zb)) (Za (Zv "BadKey" ["table"] (Za (vE 0) Zb)) (Za (Zv "BadReference" ["at"] (Za (vE 0) Zb)) (Za (Zv "BadMade" ["at"] (Za (vE 0) Zb)) (Za (Zv "Unknown" ["name"] (Za (vE 0) Zb)) (Za (Zv "NotFixed" ["name"] (Za (vE 0) Zb)) Zb)))))))))
noncomputable def Zja:FS:=(Zm 3 (opE (Zq .z) (vE 3) (Zo .z (Za (Zv "Missing" ["name"] (Za (vE 0) Zb)) (Za (Zv "BadItem" ["at"] (Za (vE 0) Zb)) (Za (Zv "BadShown" ["at"] (Za (vE 0) Zb)) (Za (Zv "BadMark" ["name"] (Za (vE 0) Zb)) (Za (Zv "Loose" ["at"] (Za (vE 0) Zb)) (Za (Zv "NoNumber" ["number"] (Za (vE 0) Zb)) (Za (Zv "Twice" ["table"] (Za (vE 0) Zb)) Zb))))))))))
noncomputable def Zjb:FS:=(Zm 3 (opE (Zq .z) (vE 3) (Zo .z (Za (Zv "TooMany" ["limit"] (Za (vE 0) Zb)) (Za (Zv "Full" ["limit"] (Za (vE 0) Zb)) (Za (Zv "NoEntry" ["many"] (Za (vE 0) Zb)) (Za (Yd "NoUse") (Za (Yd "Unlike") (Za (Yd "NoMove") (Za (Yd "Unfit") (Za (Yd "Nothing") (Za (Yd "NoText") Zb))))))))))))
noncomputable def W7:FS:=(Zi Zi8
 (Zi Zi9
 (Zi Zja
 (Zi Zjb
 (retS (opE (Zq .z) (vE 3) (Zo .z (Za (Yd "NoCommand") Zb))))))))
noncomputable def Wb:Den:=fnD 4 W7
theorem Zf8 (x0 x1 x2:D) (g:List Cell):Wb [x0,x1,x2] g=fin (W7 [some x0,some x1,some x2,none] ⟨g,[]⟩):=rfl
noncomputable def Zi1:FS:=(Zm 1 (Zo .z (Za (Zf (Zk "Parted" Zav) (Za (vE 0) (Za (fnE "Parted") Zb))) (Za (Zf (Zk "Ringed" Zaw) (Za (vE 0) (Za (fnE "Ringed") Zb))) (Za (Zf (Zk "BadRow" Zag) (Za (vE 0) (Za (fnE "BadRow") Zb))) (Za (Zf (Zk "Hidden" Zaj) (Za (vE 0) (Za (fnE "Hidden") Zb))) Zb))))))
noncomputable def Zi2:FS:=(Zm 1 (opE (Zq .z) (vE 1) (Zo .z (Za (Zf (Zk "NoSite" Zaq) (Za (vE 0) (Za (fnE "NoSite") Zb))) (Za (Zf (Zk "Wrong" ZaC) (Za (vE 0) (Za (fnE "Wrong") Zb))) (Za (Zf (Zk "BadKey" Zac) (Za (vE 0) (Za (fnE "BadKey") Zb))) (Za (Zf (Zk "BadReference" Zaf) (Za (vE 0) (Za (fnE "BadReference") Zb))) Zb)))))))
noncomputable def Zi3:FS:=(Zm 1 (opE (Zq .z) (vE 1) (Zo .z (Za (Zf (Zk "BadMade" Zad) (Za (vE 0) (Za (fnE "BadMade") Zb))) (Za (Zf (Zk "Unknown" ZaA) (Za (vE 0) (Za (fnE "Unknown") Zb))) (Za (Zf (Zk "NotFixed" Zat) (Za (vE 0) (Za (fnE "NotFixed") Zb))) (Za (Zf (Zk "Missing" Zal) (Za (vE 0) (Za (fnE "Missing") Zb))) Zb)))))))
noncomputable def Zi4:FS:=(Zm 1 (opE (Zq .z) (vE 1) (Zo .z (Za (Zf (Zk "BadItem" Zab) (Za (vE 0) (Za (fnE "BadItem") Zb))) (Za (Zf (Zk "BadShown" Zah) (Za (vE 0) (Za (fnE "BadShown") Zb))) (Za (Zf (Zk "BadMark" Zae) (Za (vE 0) (Za (fnE "BadMark") Zb))) (Za (Zf (Zk "Loose" Zak) (Za (vE 0) (Za (fnE "Loose") Zb))) Zb)))))))
noncomputable def Zi5:FS:=(Zm 1 (opE (Zq .z) (vE 1) (Zo .z (Za (Zf (Zk "NoNumber" Zap) (Za (vE 0) (Za (fnE "NoNumber") Zb))) (Za (Zf (Zk "Twice" Zay) (Za (vE 0) (Za (fnE "Twice") Zb))) (Za (Zf (Zk "TooMany" Zax) (Za (vE 0) (Za (fnE "TooMany") Zb))) (Za (Zf (Zk "Full" Zai) (Za (vE 0) (Za (fnE "Full") Zb))) Zb)))))))
noncomputable def Zi6:FS:=(Zm 1 (opE (Zq .z) (vE 1) (Zo .z (Za (Zf (Zk "NoEntry" Zan) (Za (vE 0) (Za (fnE "NoEntry") Zb))) (Za (Zf (Zk "NoUse" Zas) (Za (vE 0) (Za (fnE "NoUse") Zb))) (Za (Zf (Zk "Unlike" ZaB) (Za (vE 0) (Za (fnE "Unlike") Zb))) (Za (Zf (Zk "NoMove" Zao) (Za (vE 0) (Za (fnE "NoMove") Zb))) Zb)))))))
noncomputable def Zi7:FS:=(Zm 1 (opE (Zq .z) (vE 1) (Zo .z (Za (Zf (Zk "Unfit" Zaz) (Za (vE 0) (Za (fnE "Unfit") Zb))) (Za (Zf (Zk "Nothing" Zau) (Za (vE 0) (Za (fnE "Nothing") Zb))) (Za (Zf (Zk "NoText" Zar) (Za (vE 0) (Za (fnE "NoText") Zb))) (Za (Zf (Zk "NoCommand" Zam) (Za (vE 0) (Za (fnE "NoCommand") Zb))) Zb)))))))
noncomputable def W6:FS:=(Zi Zi1
 (Zi Zi2
 (Zi Zi3
 (Zi Zi4
 (Zi Zi5
 (Zi Zi6
 (Zi Zi7
 (retS (vE 1)))))))))
noncomputable def Vb:Den:=fnD 2 W6
theorem Zf7 (x0:D) (g:List Cell):Vb [x0] g=fin (W6 [some x0,none] ⟨g,[]⟩):=rfl
noncomputable def Zjc:FS:=(Zm 1 (Zo .z (Za (Zr ["NoSite","Parted"] [] "stream" (opE ixG (vE 0) (cE (.int 0)))) (Za (Zr ["BadKey","Ringed","BadRow","Twice"] [] "table" (opE ixG (vE 0) (cE (.int 1)))) (Za (Zr ["BadKey","Ringed","BadRow","Twice"] [] "table" (opE ixG (vE 0) (cE (.int 2)))) (Za (Zr ["Wrong","Hidden"] [] "place" (opE ixG (vE 0) (cE (.int 3)))) (Za (Zr ["NoSite","Parted"] [] "stream" (opE ixG (vE 0) (cE (.int 4)))) (Za (Zr ["Wrong","Hidden"] [] "place" (opE ixG (vE 0) (cE (.int 5)))) Zb))))))))
noncomputable def Zjd:FS:=(Zm 1 (opE (Zq .z) (vE 1) (Zo .z (Za (Zr ["BadKey","Ringed","BadRow","Twice"] [] "table" (opE ixG (vE 0) (cE (.int 6)))) (Za (Zr ["BadReference","BadMade","BadRow","BadItem","BadShown","Loose"] [] "at" (opE ixG (vE 0) (cE (.int 7)))) (Za (Zr ["BadReference","BadMade","BadRow","BadItem","BadShown","Loose"] [] "at" (opE ixG (vE 0) (cE (.int 8)))) (Za (Zr ["Unknown","NotFixed","Missing","BadMark"] [] "name" (opE ixG (vE 0) (cE (.int 9)))) (Za (Zr ["Unknown","NotFixed","Missing","BadMark"] [] "name" (opE ixG (vE 0) (cE (.int 10)))) (Za (Zr ["Unknown","NotFixed","Missing","BadMark"] [] "name" (opE ixG (vE 0) (cE (.int 11)))) (Za (Zr ["BadReference","BadMade","BadRow","BadItem","BadShown","Loose"] [] "at" (opE ixG (vE 0) (cE (.int 12)))) Zb))))))))))
noncomputable def Zje:FS:=(Zm 1 (opE (Zq .z) (vE 1) (Zo .z (Za (Zr ["BadReference","BadMade","BadRow","BadItem","BadShown","Loose"] [] "at" (opE ixG (vE 0) (cE (.int 13)))) (Za (Zr ["Unknown","NotFixed","Missing","BadMark"] [] "name" (opE ixG (vE 0) (cE (.int 14)))) (Za (Zr ["BadReference","BadMade","BadRow","BadItem","BadShown","Loose"] [] "at" (opE ixG (vE 0) (cE (.int 15)))) (Za (Zr ["NoNumber"] [] "number" (opE ixG (vE 0) (cE (.int 16)))) (Za (Zr ["BadKey","Ringed","BadRow","Twice"] [] "table" (opE ixG (vE 0) (cE (.int 17)))) (Za (Zr ["TooMany","Full"] [] "limit" (opE ixG (vE 0) (cE (.int 18)))) Zb)))))))))
noncomputable def Zjf:FS:=(Zm 1 (opE (Zq .z) (vE 1) (Zo .z (Za (Zr ["TooMany","Full"] [] "limit" (opE ixG (vE 0) (cE (.int 19)))) (Za (Zr ["NoEntry"] [] "many" (opE ixG (vE 0) (cE (.int 20)))) Zb)))))
noncomputable def Zjg:FS:=(Zm 2 (Zo .z (Za (Zr ["NoSite","Parted"] [] "index" (opE ixG (vE 0) (cE (.int 0)))) (Za (Zr ["Ringed"] [] "column" (opE ixG (vE 0) (cE (.int 1)))) (Za (Zr ["BadReference","BadMade","BadRow","BadItem","BadShown","Loose"] [] "at" (opE ixG (vE 0) (cE (.int 2)))) (Za (Zr ["Hidden"] [] "loop" (opE ixG (vE 0) (cE (.int 3)))) (Za (Zr ["NoSite","Parted"] [] "index" (opE ixG (vE 0) (cE (.int 4)))) Zb)))))))
noncomputable def Zjh:FS:=(retS (Zo .z (Za (vE 1) (Za (vE 2) (Za (Zo .z (Za (Zr ["Parted"] [] "word" (opE ixG (vE 0) (cE (.int 0)))) Zb)) Zb)))))
noncomputable def W8:FS:=(Zi Zjc
 (Zi Zjd
 (Zi Zje
 (Zi Zjf
 (Zi Zjg
 Zjh)))))
noncomputable def VG:Den:=fnD 3 W8
theorem Zf9 (x0:D) (g:List Cell):VG [x0] g=fin (W8 [some x0,none,none] ⟨g,[]⟩):=rfl
noncomputable def Kc:FE:=(Ys Kr (Za (vE 1) Zb))
noncomputable def K6:FS:=(Zi (ifS (tvE (Zf Yt (Za (vE 7) (Za (tyE "list") Zb)))) (Vh (Wt "list" VB (vE 7) (Za (cE (.str (Str.ofString "new"))) Zb))) ZF)
 (ifS (tvE (Zf Yt (Za (vE 7) (Za (tyE "dict") Zb)))) (Yk (cE (.int 2)) (Yn setG (vE 7) (cE (.str (Str.ofString "b"))))) ZF))
noncomputable def Wo:FS:=(Zi (Zm 6 (Zo .z (Za (opE (Vo .z) (Zo .z (Za (opE ixG (vE 3) (cE (.int 0))) Zb)) (cE (.int 21))) (Za (opE (Vo .z) (Zo .z (Za (opE ixG (vE 3) (cE (.int 1))) Zb)) (cE (.int 5))) (Za (Zo .z (Za (opE ixG (vE 3) (cE (.int 2))) Zb)) Zb)))))
 (Zi (ifS (JM (tvE (Ys U9 (Za (Ys VG (Za (vE 4) Zb)) (Za (vE 6) Zb))))) (retS (cE (.bool false))) ZF)
 (qpq (qkt (vE 3)) (YD 7) K6)))
noncomputable def Wq:FS:=(Zi (ifS (Z3 (opE (eqG true) (Ys Vb (Za (vE 9) Zb)) (lcW .z [10] (qrS (JR (Za (cE (.int 28)) Zb))) (Ju 10) Ji (opE (eqG false) (vE 10) (vE 8))))) (retS (cE (.bool false))) ZF)
 (ifS (orT (JM (tvE (Zf (Zk "PlanError" ZbT) (Za (vE 9) (Za (fnE "PlanError") Zb))))) (JM (tvE (Zf (Wm xns) (Za (vE 9) (Za (tyE "ValueError") Zb)))))) (retS (cE (.bool false))) ZF))
noncomputable def Wr:FS:=(ifS (orT (Z3 (opE inG (cE (.bool true)) (Ys Vb (Za (vE 9) Zb)))) (JM (tvE (Zf (Wm xns) (Za (vE 9) (Za (tyE "ValueError") Zb)))))) (retS (cE (.bool false))) ZF)
noncomputable def K7:FS:=(Zi (Zm 3 (lcW .z [10] (qrS (JR (Za (cE (.int 3)) Zb))) (Ju 10) Ji Kc))
 (Zi (Zm 4 (Ys Wb (Za (opE ixG (vE 3) (cE (.int 0))) (Za (opE ixG (vE 3) (cE (.int 1))) (Za (opE ixG (vE 3) (cE (.int 2))) Zb)))))
 (Zi (qpq (qrS (JR (Za (cE (.int 2)) Zb))) (YD 5) Wo)
 (Zi (qpq (qpp (Za (vE 4) Zb)) (Vv 2 (Jy (YD 8) (Jy (YD 9) nilG))) Wq)
 (qpq (qkt (Zo .z (Za (Yu "PlanError" (Za (opE ixG (vE 3) (cE (.int 0))) Zb)) (Za (Yd "PlanError") (Za (Yu "PlanError" (Za (cE (.str (Str.ofString "a"))) (Za (cE (.int 1)) Zb))) Zb))))) (YD 9) Wr)))))
noncomputable def Ka:FS:=(Zi (Zm 1 (Ys Km (Za (vE 0) Zb)))
 (Zi (qpq (qrS (JR (Za (cE (.int 5)) Zb))) (YD 2) K7)
 (retS (cE (.bool true)))))
noncomputable def BX:Den:=fnD 11 Ka
theorem Zgc (x0:D) (g:List Cell):BX [x0] g=fin (Ka [some x0,none,none,none,none,none,none,none,none,none,none] ⟨g,[]⟩):=rfl
end K10
namespace K10
open PySem PySem.Spec PyProof.Rows L2 L2.Dn
def Jv (i:Nat):Stmt:=PySem.Challenge.pw_plancalls_k10_errors_kept.main.body.getD i (.Pass ⟨0,0,0,0⟩)
def ZR (i j:Nat):Stmt:=match Jv i with
 | .ClassDef (body:=b) ..=>b.getD j (.Pass ⟨0,0,0,0⟩)
 | s=>s
abbrev Vr:Stmt:=Jv 31
theorem El:FnScope ["_law_script","_law_cell"] ["_law_script"] (defScope Vr):=⟨rfl,rfl,rfl,by decide +kernel,rfl,by decide +kernel,by decide +kernel⟩
abbrev Ua:Stmt:=Jv 32
theorem Xk:FnScope ["_law_bag_here","_law_most","_law_cell","_law_mixed","_law_drawn","_law_begin","_law_second"] ["_law_bag_here","_law_most"] (defScope Ua):=⟨rfl,rfl,rfl,by decide +kernel,rfl,by decide +kernel,by decide +kernel⟩
abbrev V6:Stmt:=Jv 33
theorem ZiN:FnScope ["_law_one","_law_other"] ["_law_one","_law_other"] (defScope V6):=⟨rfl,rfl,rfl,by decide +kernel,rfl,by decide +kernel,by decide +kernel⟩
abbrev Ub:Stmt:=Jv 34
theorem Cd:FnScope ["_law_bag_here","_law_some"] ["_law_bag_here"] (defScope Ub):=⟨rfl,rfl,rfl,by decide +kernel,rfl,by decide +kernel,by decide +kernel⟩
abbrev V8:Stmt:=Jv 35
theorem Rj:FnScope ["_law_one","_law_two","_law_three","_law_found"] ["_law_one","_law_two","_law_three"] (defScope V8):=⟨rfl,rfl,rfl,by decide +kernel,rfl,by decide +kernel,by decide +kernel⟩
abbrev V7:Stmt:=Jv 36
theorem Xa:FnScope ["_law_e","_law_found"] ["_law_e"] (defScope V7):=⟨rfl,rfl,rfl,by decide +kernel,rfl,by decide +kernel,by decide +kernel⟩
abbrev V9:Stmt:=Jv 37
theorem Xr:FnScope ["_law_some","_law_first","_law_second"] ["_law_some"] (defScope V9):=⟨rfl,rfl,rfl,by decide +kernel,rfl,by decide +kernel,by decide +kernel⟩
abbrev JS:Stmt:=Jv 38
theorem Mu:FnScope ["_law_script","_law_bag_here","_law_turn","_law_things","_law_some","_law_again","_law_due","_law_thing_here","_law_at","_law_e","_law_k"] ["_law_script"] (defScope JS):=⟨rfl,rfl,rfl,by decide +kernel,rfl,by decide +kernel,by decide +kernel⟩
abbrev Uc:Stmt:=ZR 11 0
theorem Zjp:FnScope ["self","at"] ["self","at"] (defScope Uc):=⟨rfl,rfl,rfl,by decide +kernel,rfl,by decide +kernel,by decide +kernel⟩
abbrev Ud:Stmt:=ZR 3 0
theorem Zjq:FnScope ["self","table"] ["self","table"] (defScope Ud):=⟨rfl,rfl,rfl,by decide +kernel,rfl,by decide +kernel,by decide +kernel⟩
abbrev Ue:Stmt:=ZR 5 0
theorem Zjr:FnScope ["self","at"] ["self","at"] (defScope Ue):=⟨rfl,rfl,rfl,by decide +kernel,rfl,by decide +kernel,by decide +kernel⟩
abbrev Ug:Stmt:=ZR 13 0
theorem Zjs:FnScope ["self","name"] ["self","name"] (defScope Ug):=⟨rfl,rfl,rfl,by decide +kernel,rfl,by decide +kernel,by decide +kernel⟩
abbrev Uh:Stmt:=ZR 4 0
theorem Zjt:FnScope ["self","at"] ["self","at"] (defScope Uh):=⟨rfl,rfl,rfl,by decide +kernel,rfl,by decide +kernel,by decide +kernel⟩
abbrev Ui:Stmt:=ZR 9 0
theorem Zju:FnScope ["self","table","at"] ["self","table","at"] (defScope Ui):=⟨rfl,rfl,rfl,by decide +kernel,rfl,by decide +kernel,by decide +kernel⟩
abbrev Uj:Stmt:=ZR 12 0
theorem Zjv:FnScope ["self","at"] ["self","at"] (defScope Uj):=⟨rfl,rfl,rfl,by decide +kernel,rfl,by decide +kernel,by decide +kernel⟩
abbrev Uk:Stmt:=ZR 24 0
theorem Zjw:FnScope ["self","limit"] ["self","limit"] (defScope Uk):=⟨rfl,rfl,rfl,by decide +kernel,rfl,by decide +kernel,by decide +kernel⟩
abbrev Ul:Stmt:=ZR 15 0
theorem Zjx:FnScope ["self","place","loop"] ["self","place","loop"] (defScope Ul):=⟨rfl,rfl,rfl,by decide +kernel,rfl,by decide +kernel,by decide +kernel⟩
abbrev Um:Stmt:=ZR 16 0
theorem Zjy:FnScope ["self","at"] ["self","at"] (defScope Um):=⟨rfl,rfl,rfl,by decide +kernel,rfl,by decide +kernel,by decide +kernel⟩
abbrev Uo:Stmt:=ZR 10 0
theorem Zjz:FnScope ["self","name"] ["self","name"] (defScope Uo):=⟨rfl,rfl,rfl,by decide +kernel,rfl,by decide +kernel,by decide +kernel⟩
abbrev Uq:Stmt:=ZR 29 0
theorem ZjA:FnScope ["self"] ["self"] (defScope Uq):=⟨rfl,rfl,rfl,by decide +kernel,rfl,by decide +kernel,by decide +kernel⟩
abbrev Ur:Stmt:=ZR 27 0
theorem ZjB:FnScope ["self","many"] ["self","many"] (defScope Ur):=⟨rfl,rfl,rfl,by decide +kernel,rfl,by decide +kernel,by decide +kernel⟩
abbrev Us:Stmt:=ZR 21 0
theorem ZjC:FnScope ["self"] ["self"] (defScope Us):=⟨rfl,rfl,rfl,by decide +kernel,rfl,by decide +kernel,by decide +kernel⟩
abbrev Ut:Stmt:=ZR 20 0
theorem ZjD:FnScope ["self","number"] ["self","number"] (defScope Ut):=⟨rfl,rfl,rfl,by decide +kernel,rfl,by decide +kernel,by decide +kernel⟩
abbrev Uu:Stmt:=ZR 17 0
theorem ZjE:FnScope ["self","stream","index"] ["self","stream","index"] (defScope Uu):=⟨rfl,rfl,rfl,by decide +kernel,rfl,by decide +kernel,by decide +kernel⟩
abbrev Uv:Stmt:=ZR 28 0
theorem ZjF:FnScope ["self"] ["self"] (defScope Uv):=⟨rfl,rfl,rfl,by decide +kernel,rfl,by decide +kernel,by decide +kernel⟩
abbrev Uw:Stmt:=ZR 14 0
theorem ZjG:FnScope ["self"] ["self"] (defScope Uw):=⟨rfl,rfl,rfl,by decide +kernel,rfl,by decide +kernel,by decide +kernel⟩
abbrev Ux:Stmt:=ZR 8 0
theorem ZjH:FnScope ["self","name"] ["self","name"] (defScope Ux):=⟨rfl,rfl,rfl,by decide +kernel,rfl,by decide +kernel,by decide +kernel⟩
abbrev Uy:Stmt:=ZR 26 0
theorem ZjI:FnScope ["self"] ["self"] (defScope Uy):=⟨rfl,rfl,rfl,by decide +kernel,rfl,by decide +kernel,by decide +kernel⟩
abbrev Uz:Stmt:=ZR 19 0
theorem ZjJ:FnScope ["self","stream","index","word"] ["self","stream","index","word"] (defScope Uz):=⟨rfl,rfl,rfl,by decide +kernel,rfl,by decide +kernel,by decide +kernel⟩
abbrev UG:Stmt:=ZR 6 0
theorem ZjK:FnScope ["self","table","column"] ["self","table","column"] (defScope UG):=⟨rfl,rfl,rfl,by decide +kernel,rfl,by decide +kernel,by decide +kernel⟩
abbrev UJ:Stmt:=ZR 23 0
theorem ZjL:FnScope ["self","limit"] ["self","limit"] (defScope UJ):=⟨rfl,rfl,rfl,by decide +kernel,rfl,by decide +kernel,by decide +kernel⟩
abbrev UL:Stmt:=ZR 22 0
theorem ZjM:FnScope ["self","table"] ["self","table"] (defScope UL):=⟨rfl,rfl,rfl,by decide +kernel,rfl,by decide +kernel,by decide +kernel⟩
abbrev UT:Stmt:=ZR 25 0
theorem ZjN:FnScope ["self"] ["self"] (defScope UT):=⟨rfl,rfl,rfl,by decide +kernel,rfl,by decide +kernel,by decide +kernel⟩
abbrev UV:Stmt:=ZR 7 0
theorem ZjO:FnScope ["self","name"] ["self","name"] (defScope UV):=⟨rfl,rfl,rfl,by decide +kernel,rfl,by decide +kernel,by decide +kernel⟩
abbrev UW:Stmt:=ZR 18 0
theorem ZjP:FnScope ["self"] ["self"] (defScope UW):=⟨rfl,rfl,rfl,by decide +kernel,rfl,by decide +kernel,by decide +kernel⟩
abbrev U0:Stmt:=ZR 2 0
theorem ZjQ:FnScope ["self","place"] ["self","place"] (defScope U0):=⟨rfl,rfl,rfl,by decide +kernel,rfl,by decide +kernel,by decide +kernel⟩
/-- where the defs,classes and constants stand -/
structure Ad where
 BR:Addr
 Ei:FuncData
 Eh:Addr
 Hr:FuncData
 Hh:Addr
 NZ:FuncData
 Hi:Addr
 N5:FuncData
 NK:Addr
 M6:FuncData
 M4:Addr
 Ma:FuncData
 NP:Addr
 M7:FuncData
 qvB:Addr
 qr5:FuncData
 qj:Addr
 Qw:Addr
 qY:Addr
 qd:Addr
 qD:Addr
 qT:Addr
 qJ:Addr
 qw:Addr
 qP:Addr
 qG:Addr
 qC:Addr
 qp:Addr
 qF:Addr
 Qx:Addr
 qQ:Addr
 Qu:Addr
 qR:Addr
 Qi:Addr
 qL:Addr
 qu:Addr
 Qg:Addr
 Qv:Addr
 qI:Addr
 QT:Addr
 Qy:Addr
 qK:Addr
 qH:Addr
 Qh:Addr
 ql:Addr
 Xu:Addr
 Aa:FuncData
 Rq:Addr
 qcQ:FuncData
 Xv:Addr
 Ab:FuncData
 Xw:Addr
 Ac:FuncData
 Q8:Addr
 Mi:FuncData
 Rr:Addr
 qcR:FuncData
 Xh:Addr
 Em:FuncData
 Nb:Addr
 qmv:FuncData
 Ru:Addr
 qcS:FuncData
 Tn:Addr
 qhL:FuncData
 Xx:Addr
 Ae:FuncData
 Xc:Addr
 Gn:FuncData
 Xy:Addr
 Af:FuncData
 Rv:Addr
 qcT:FuncData
 Xi:Addr
 Eo:FuncData
 Rw:Addr
 qcU:FuncData
 Rx:Addr
 qcV:FuncData
 Tp:Addr
 qhM:FuncData
 Xj:Addr
 Ep:FuncData
 Xz:Addr
 Ag:FuncData
 Ry:Addr
 qcW:FuncData
 Rz:Addr
 qcX:FuncData
 XC:Addr
 Ah:FuncData
 Tq:Addr
 qhN:FuncData
 Tr:Addr
 qhO:FuncData
 XD:Addr
 Ai:FuncData
 RB:Addr
 qcY:FuncData
 Tt:Addr
 qhP:FuncData
structure Txt (w:World) (K:PySem.W.Frag) (mg:Str→Option Value) (A:Ad):Prop where
 T6:Fun K "_law_bag" "_law_bag" Vr A.BR A.Ei
 qeO:mg "_law_bag"=some (.ref A.BR)
 Gz:Binds K A.Ei ["_law_script"] []
 RN:Fun K "_law_take" "_law_take" Ua A.Eh A.Hr
 Ek:mg "_law_take"=some (.ref A.Eh)
 T9:Binds K A.Hr ["_law_bag_here","_law_most"] []
 RQ:Fun K "_law_alike" "_law_alike" V6 A.Hh A.NZ
 Ir:mg "_law_alike"=some (.ref A.Hh)
 Ml:Binds K A.NZ ["_law_one","_law_other"] []
 RW:Fun K "_law_thing" "_law_thing" Ub A.Hi A.N5
 Iu:mg "_law_thing"=some (.ref A.Hi)
 Mp:Binds K A.N5 ["_law_bag_here"] []
 Rg:Fun K "_law_errors" "_law_errors" V8 A.NK A.M6
 DR:mg "_law_errors"=some (.ref A.NK)
 TV:Binds K A.M6 ["_law_one","_law_two","_law_three"] []
 Xf:Fun K "_law_classes" "_law_classes" V7 A.M4 A.Ma
 M8:mg "_law_classes"=some (.ref A.M4)
 Ri:Binds K A.Ma ["_law_e"] []
 Rh:Fun K "_law_fields" "_law_fields" V9 A.NP A.M7
 DY:mg "_law_fields"=some (.ref A.NP)
 TX:Binds K A.M7 ["_law_some"] []
 qrA:Fun K "law" "law" JS A.qvB A.qr5
 qwM:mg "law"=some (.ref A.qvB)
 qvD:Binds K A.qr5 ["_law_script"] []
 qZ:mg "PlanError"=some (.ref A.qj)
 qhm:mg "Wrong"=some (.ref A.Qw)
 qaT:mg "BadKey"=some (.ref A.qY)
 Tj:mg "BadReference"=some (.ref A.qd)
 Du:mg "BadMade"=some (.ref A.qD)
 qa0:mg "Ringed"=some (.ref A.qT)
 DQ:mg "Unknown"=some (.ref A.qJ)
 GP:mg "NotFixed"=some (.ref A.qw)
 qaU:mg "BadRow"=some (.ref A.qP)
 Dz:mg "Missing"=some (.ref A.qG)
 Dt:mg "BadItem"=some (.ref A.qC)
 GF:mg "BadShown"=some (.ref A.qp)
 Dy:mg "BadMark"=some (.ref A.qF)
 qhj:mg "NoUse"=some (.ref A.Qx)
 qaV:mg "Hidden"=some (.ref A.qQ)
 qhi:mg "Loose"=some (.ref A.Qu)
 qaX:mg "NoSite"=some (.ref A.qR)
 qa1:mg "Unlike"=some (.ref A.Qi)
 qaZ:mg "Parted"=some (.ref A.qL)
 GJ:mg "NoNumber"=some (.ref A.qu)
 qaW:mg "NoMove"=some (.ref A.Qg)
 qhk:mg "Twice"=some (.ref A.Qv)
 DP:mg "TooMany"=some (.ref A.qI)
 qn9:mg "Full"=some (.ref A.QT)
 qhl:mg "Unfit"=some (.ref A.Qy)
 DN:mg "Nothing"=some (.ref A.qK)
 DK:mg "NoEntry"=some (.ref A.qH)
 qaY:mg "NoText"=some (.ref A.Qh)
 N6:mg "NoCommand"=some (.ref A.ql)
 Mx:XcT K A.qj
 MF:XcT K A.Qw
 Tw:XcT K A.qY
 Xb:XcT K A.qd
 R3:XcT K A.qD
 Rp:XcT K A.qT
 R9:XcT K A.qJ
 XR:XcT K A.qw
 Rk:XcT K A.qP
 R5:XcT K A.qG
 RX:XcT K A.qC
 XM:XcT K A.qp
 R4:XcT K A.qF
 G9:XcT K A.Qx
 Rm:XcT K A.qQ
 Mw:XcT K A.Qu
 Ro:XcT K A.qR
 Nz:XcT K A.Qi
 Xl:XcT K A.qL
 XQ:XcT K A.qu
 Nv:XcT K A.Qg
 Mz:XcT K A.Qv
 R8:XcT K A.qI
 Gm:XcT K A.QT
 Fb:XcT K A.Qy
 T7:XcT K A.qK
 R7:XcT K A.qH
 Ny:XcT K A.Qh
 R6:XcT K A.ql
 Fd:PySem.W.findIn K (.ref A.qC) "__init__"=some (some (.ref A.Xu))
 Fv:PySem.W.typeIn K (.ref A.Xu)=some (.type "function")
 Nh:Fun K "__init__" "BadItem.__init__" Uc A.Xu A.Aa
 GX:Binds K A.Aa ["self","at"] []
 Sy:PySem.W.findIn K (.ref A.qC) "at"=some none
 Ba:PySem.W.findIn K (.ref A.qY) "__init__"=some (some (.ref A.Rq))
 Bp:PySem.W.typeIn K (.ref A.Rq)=some (.type "function")
 HX:Fun K "__init__" "BadKey.__init__" Ud A.Rq A.qcQ
 Cq:Binds K A.qcQ ["self","table"] []
 XS:PySem.W.findIn K (.ref A.qY) "table"=some none
 Fe:PySem.W.findIn K (.ref A.qD) "__init__"=some (some (.ref A.Xv))
 Fw:PySem.W.typeIn K (.ref A.Xv)=some (.type "function")
 Nk:Fun K "__init__" "BadMade.__init__" Ue A.Xv A.Ab
 GZ:Binds K A.Ab ["self","at"] []
 SJ:PySem.W.findIn K (.ref A.qD) "at"=some none
 Fg:PySem.W.findIn K (.ref A.qF) "__init__"=some (some (.ref A.Xw))
 Fx:PySem.W.typeIn K (.ref A.Xw)=some (.type "function")
 Nm:Fun K "__init__" "BadMark.__init__" Ug A.Xw A.Ac
 G3:Binds K A.Ac ["self","name"] []
 X3:PySem.W.findIn K (.ref A.qF) "name"=some none
 Sw:PySem.W.findIn K (.ref A.qd) "__init__"=some (some (.ref A.Q8))
 SN:PySem.W.typeIn K (.ref A.Q8)=some (.type "function")
 XJ:Fun K "__init__" "BadReference.__init__" Uh A.Q8 A.Mi
 Sv:Binds K A.Mi ["self","at"] []
 Xd:PySem.W.findIn K (.ref A.qd) "at"=some none
 Bb:PySem.W.findIn K (.ref A.qP) "__init__"=some (some (.ref A.Rr))
 Bq:PySem.W.typeIn K (.ref A.Rr)=some (.type "function")
 HY:Fun K "__init__" "BadRow.__init__" Ui A.Rr A.qcR
 Cr:Binds K A.qcR ["self","table","at"] []
 X4:PySem.W.findIn K (.ref A.qP) "table"=some none
 Tz:PySem.W.findIn K (.ref A.qP) "at"=some none
 Ph:PySem.W.findIn K (.ref A.qp) "__init__"=some (some (.ref A.Xh))
 Pn:PySem.W.typeIn K (.ref A.Xh)=some (.type "function")
 Mf:Fun K "__init__" "BadShown.__init__" Uj A.Xh A.Em
 N7:Binds K A.Em ["self","at"] []
 RD:PySem.W.findIn K (.ref A.qp) "at"=some none
 qhS:PySem.W.findIn K (.ref A.QT) "__init__"=some (some (.ref A.Nb))
 qh2:PySem.W.typeIn K (.ref A.Nb)=some (.type "function")
 qcG:Fun K "__init__" "Full.__init__" Uk A.Nb A.qmv
 qhH:Binds K A.qmv ["self","limit"] []
 SM:PySem.W.findIn K (.ref A.QT) "limit"=some none
 Bc:PySem.W.findIn K (.ref A.qQ) "__init__"=some (some (.ref A.Ru))
 Br:PySem.W.typeIn K (.ref A.Ru)=some (.type "function")
 Ge:Fun K "__init__" "Hidden.__init__" Ul A.Ru A.qcS
 Cu:Binds K A.qcS ["self","place","loop"] []
 X5:PySem.W.findIn K (.ref A.qQ) "place"=some none
 RJ:PySem.W.findIn K (.ref A.qQ) "loop"=some none
 qa7:PySem.W.findIn K (.ref A.Qu) "__init__"=some (some (.ref A.Tn))
 qbc:PySem.W.typeIn K (.ref A.Tn)=some (.type "function")
 Ci:Fun K "__init__" "Loose.__init__" Um A.Tn A.qhL
 qa2:Binds K A.qhL ["self","at"] []
 Mj:PySem.W.findIn K (.ref A.Qu) "at"=some none
 Fj:PySem.W.findIn K (.ref A.qG) "__init__"=some (some (.ref A.Xx))
 Fy:PySem.W.typeIn K (.ref A.Xx)=some (.type "function")
 Np:Fun K "__init__" "Missing.__init__" Uo A.Xx A.Ae
 G4:Binds K A.Ae ["self","name"] []
 X6:PySem.W.findIn K (.ref A.qG) "name"=some none
 MJ:PySem.W.findIn K (.ref A.ql) "__init__"=some (some (.ref A.Xc))
 MK:PySem.W.typeIn K (.ref A.Xc)=some (.type "function")
 Tv:Fun K "__init__" "NoCommand.__init__" Uq A.Xc A.Gn
 Mv:Binds K A.Gn ["self"] []
 Fo:PySem.W.findIn K (.ref A.qH) "__init__"=some (some (.ref A.Xy))
 FJ:PySem.W.typeIn K (.ref A.Xy)=some (.type "function")
 Nq:Fun K "__init__" "NoEntry.__init__" Ur A.Xy A.Af
 G5:Binds K A.Af ["self","many"] []
 X7:PySem.W.findIn K (.ref A.qH) "many"=some none
 Bf:PySem.W.findIn K (.ref A.Qg) "__init__"=some (some (.ref A.Rv))
 Bs:PySem.W.typeIn K (.ref A.Rv)=some (.type "function")
 Gf:Fun K "__init__" "NoMove.__init__" Us A.Rv A.qcT
 Cv:Binds K A.qcT ["self"] []
 Pj:PySem.W.findIn K (.ref A.qu) "__init__"=some (some (.ref A.Xi))
 Pq:PySem.W.typeIn K (.ref A.Xi)=some (.type "function")
 Mg:Fun K "__init__" "NoNumber.__init__" Ut A.Xi A.Eo
 N8:Binds K A.Eo ["self","number"] []
 Xe:PySem.W.findIn K (.ref A.qu) "number"=some none
 Bg:PySem.W.findIn K (.ref A.qR) "__init__"=some (some (.ref A.Rw))
 Bt:PySem.W.typeIn K (.ref A.Rw)=some (.type "function")
 Gg:Fun K "__init__" "NoSite.__init__" Uu A.Rw A.qcU
 Cy:Binds K A.qcU ["self","stream","index"] []
 Xm:PySem.W.findIn K (.ref A.qR) "stream"=some none
 X8:PySem.W.findIn K (.ref A.qR) "index"=some none
 Bj:PySem.W.findIn K (.ref A.Qh) "__init__"=some (some (.ref A.Rx))
 Bu:PySem.W.typeIn K (.ref A.Rx)=some (.type "function")
 Gh:Fun K "__init__" "NoText.__init__" Uv A.Rx A.qcV
 Cz:Binds K A.qcV ["self"] []
 qa8:PySem.W.findIn K (.ref A.Qx) "__init__"=some (some (.ref A.Tp))
 qbd:PySem.W.typeIn K (.ref A.Tp)=some (.type "function")
 Cj:Fun K "__init__" "NoUse.__init__" Uw A.Tp A.qhM
 qa3:Binds K A.qhM ["self"] []
 Pk:PySem.W.findIn K (.ref A.qw) "__init__"=some (some (.ref A.Xj))
 Pr:PySem.W.typeIn K (.ref A.Xj)=some (.type "function")
 Mh:Fun K "__init__" "NotFixed.__init__" Ux A.Xj A.Ep
 Pa:Binds K A.Ep ["self","name"] []
 Xn:PySem.W.findIn K (.ref A.qw) "name"=some none
 Fp:PySem.W.findIn K (.ref A.qK) "__init__"=some (some (.ref A.Xz))
 FQ:PySem.W.typeIn K (.ref A.Xz)=some (.type "function")
 Nr:Fun K "__init__" "Nothing.__init__" Uy A.Xz A.Ag
 G6:Binds K A.Ag ["self"] []
 Bl:PySem.W.findIn K (.ref A.qL) "__init__"=some (some (.ref A.Ry))
 Bv:PySem.W.typeIn K (.ref A.Ry)=some (.type "function")
 Gi:Fun K "__init__" "Parted.__init__" Uz A.Ry A.qcW
 CG:Binds K A.qcW ["self","stream","index","word"] []
 Xo:PySem.W.findIn K (.ref A.qL) "stream"=some none
 Ra:PySem.W.findIn K (.ref A.qL) "index"=some none
 RK:PySem.W.findIn K (.ref A.qL) "word"=some none
 Bm:PySem.W.findIn K (.ref A.qT) "__init__"=some (some (.ref A.Rz))
 Bw:PySem.W.typeIn K (.ref A.Rz)=some (.type "function")
 Gj:Fun K "__init__" "Ringed.__init__" UG A.Rz A.qcX
 CJ:Binds K A.qcX ["self","table","column"] []
 Rb:PySem.W.findIn K (.ref A.qT) "table"=some none
 Xp:PySem.W.findIn K (.ref A.qT) "column"=some none
 Fq:PySem.W.findIn K (.ref A.qI) "__init__"=some (some (.ref A.XC))
 FT:PySem.W.typeIn K (.ref A.XC)=some (.type "function")
 Nt:Fun K "__init__" "TooMany.__init__" UJ A.XC A.Ah
 G7:Binds K A.Ah ["self","limit"] []
 Xq:PySem.W.findIn K (.ref A.qI) "limit"=some none
 qa9:PySem.W.findIn K (.ref A.Qv) "__init__"=some (some (.ref A.Tq))
 qbe:PySem.W.typeIn K (.ref A.Tq)=some (.type "function")
 Ck:Fun K "__init__" "Twice.__init__" UL A.Tq A.qhN
 qa4:Binds K A.qhN ["self","table"] []
 RL:PySem.W.findIn K (.ref A.Qv) "table"=some none
 qba:PySem.W.findIn K (.ref A.Qy) "__init__"=some (some (.ref A.Tr))
 qbf:PySem.W.typeIn K (.ref A.Tr)=some (.type "function")
 Cm:Fun K "__init__" "Unfit.__init__" UT A.Tr A.qhO
 qa5:Binds K A.qhO ["self"] []
 Ft:PySem.W.findIn K (.ref A.qJ) "__init__"=some (some (.ref A.XD))
 FZ:PySem.W.typeIn K (.ref A.XD)=some (.type "function")
 Nu:Fun K "__init__" "Unknown.__init__" UV A.XD A.Ai
 G8:Binds K A.Ai ["self","name"] []
 Rf:PySem.W.findIn K (.ref A.qJ) "name"=some none
 Bo:PySem.W.findIn K (.ref A.Qi) "__init__"=some (some (.ref A.RB))
 Bx:PySem.W.typeIn K (.ref A.RB)=some (.type "function")
 Gk:Fun K "__init__" "Unlike.__init__" UW A.RB A.qcY
 CK:Binds K A.qcY ["self"] []
 qbb:PySem.W.findIn K (.ref A.Qw) "__init__"=some (some (.ref A.Tt))
 qbg:PySem.W.typeIn K (.ref A.Tt)=some (.type "function")
 Cp:Fun K "__init__" "Wrong.__init__" U0 A.Tt A.qhP
 qa6:Binds K A.qhP ["self","place"] []
 RM:PySem.W.findIn K (.ref A.Qw) "place"=some none
 qU:PySem.W.specialIn K (.ref A.qj) "__getattribute__"=some (some (.builtin "type.__getattribute__"))
 qW:PySem.W.readsIn K A.qj (.type "type")=true
 qX:PySem.W.findCls K (.ref A.qj) (.type "type") "__init__"=some (.val (.builtin "ValueError.__init__"))
 ql2:∀C∈(["BadReference","BadMade","BadRow","BadItem","BadShown","Loose"]:List Str),∃Ca,mg C=some (.ref Ca)∧Yy K Ca "at"
 ql1:∀C∈([]:List Str),∃Ca,mg C=some (.ref Ca)∧Yx K Ca "at"
 qiV:∀C∈(["Ringed"]:List Str),∃Ca,mg C=some (.ref Ca)∧Yy K Ca "column"
 qiT:∀C∈([]:List Str),∃Ca,mg C=some (.ref Ca)∧Yx K Ca "column"
 qhf:∀C∈(["NoSite","Parted"]:List Str),∃Ca,mg C=some (.ref Ca)∧Yy K Ca "index"
 qhc:∀C∈([]:List Str),∃Ca,mg C=some (.ref Ca)∧Yx K Ca "index"
 qhg:∀C∈(["TooMany","Full"]:List Str),∃Ca,mg C=some (.ref Ca)∧Yy K Ca "limit"
 qhd:∀C∈([]:List Str),∃Ca,mg C=some (.ref Ca)∧Yx K Ca "limit"
 qr9:∀C∈(["Hidden"]:List Str),∃Ca,mg C=some (.ref Ca)∧Yy K Ca "loop"
 qr6:∀C∈([]:List Str),∃Ca,mg C=some (.ref Ca)∧Yx K Ca "loop"
 qsa:∀C∈(["NoEntry"]:List Str),∃Ca,mg C=some (.ref Ca)∧Yy K Ca "many"
 qr7:∀C∈([]:List Str),∃Ca,mg C=some (.ref Ca)∧Yx K Ca "many"
 qbV:∀C∈(["Unknown","NotFixed","Missing","BadMark"]:List Str),∃Ca,mg C=some (.ref Ca)∧Yy K Ca "name"
 qbT:∀C∈([]:List Str),∃Ca,mg C=some (.ref Ca)∧Yx K Ca "name"
 qiW:∀C∈(["NoNumber"]:List Str),∃Ca,mg C=some (.ref Ca)∧Yy K Ca "number"
 qiU:∀C∈([]:List Str),∃Ca,mg C=some (.ref Ca)∧Yx K Ca "number"
 qhh:∀C∈(["Wrong","Hidden"]:List Str),∃Ca,mg C=some (.ref Ca)∧Yy K Ca "place"
 qhe:∀C∈([]:List Str),∃Ca,mg C=some (.ref Ca)∧Yx K Ca "place"
 qbW:∀C∈(["NoSite","Parted"]:List Str),∃Ca,mg C=some (.ref Ca)∧Yy K Ca "stream"
 qbU:∀C∈([]:List Str),∃Ca,mg C=some (.ref Ca)∧Yx K Ca "stream"
 Ds:∀C∈(["BadKey","Ringed","BadRow","Twice"]:List Str),∃Ca,mg C=some (.ref Ca)∧Yy K Ca "table"
 Dr:∀C∈([]:List Str),∃Ca,mg C=some (.ref Ca)∧Yx K Ca "table"
 qsb:∀C∈(["Parted"]:List Str),∃Ca,mg C=some (.ref Ca)∧Yy K Ca "word"
 qr8:∀C∈([]:List Str),∃Ca,mg C=some (.ref Ca)∧Yx K Ca "word"
 qeP:∀q∈Zab,∃Ca,mg q.1=some (.ref Ca)∧IsX K Ca A.qC q.2
 qiX:∀q∈Zac,∃Ca,mg q.1=some (.ref Ca)∧IsX K Ca A.qY q.2
 qeQ:∀q∈Zad,∃Ca,mg q.1=some (.ref Ca)∧IsX K Ca A.qD q.2
 qeR:∀q∈Zae,∃Ca,mg q.1=some (.ref Ca)∧IsX K Ca A.qF q.2
 Ht:∀q∈Zaf,∃Ca,mg q.1=some (.ref Ca)∧IsX K Ca A.qd q.2
 qiY:∀q∈Zag,∃Ca,mg q.1=some (.ref Ca)∧IsX K Ca A.qP q.2
 qbX:∀q∈Zah,∃Ca,mg q.1=some (.ref Ca)∧IsX K Ca A.qp q.2
 qsi:∀q∈Zai,∃Ca,mg q.1=some (.ref Ca)∧IsX K Ca A.QT q.2
 qiZ:∀q∈Zaj,∃Ca,mg q.1=some (.ref Ca)∧IsX K Ca A.qQ q.2
 qoa:∀q∈Zak,∃Ca,mg q.1=some (.ref Ca)∧IsX K Ca A.Qu q.2
 qeS:∀q∈Zal,∃Ca,mg q.1=some (.ref Ca)∧IsX K Ca A.qG q.2
 Iv:∀q∈Zam,∃Ca,mg q.1=some (.ref Ca)∧IsX K Ca A.ql q.2
 qeT:∀q∈Zan,∃Ca,mg q.1=some (.ref Ca)∧IsX K Ca A.qH q.2
 qi0:∀q∈Zao,∃Ca,mg q.1=some (.ref Ca)∧IsX K Ca A.Qg q.2
 qbY:∀q∈Zap,∃Ca,mg q.1=some (.ref Ca)∧IsX K Ca A.qu q.2
 qi1:∀q∈Zaq,∃Ca,mg q.1=some (.ref Ca)∧IsX K Ca A.qR q.2
 qi2:∀q∈Zar,∃Ca,mg q.1=some (.ref Ca)∧IsX K Ca A.Qh q.2
 qob:∀q∈Zas,∃Ca,mg q.1=some (.ref Ca)∧IsX K Ca A.Qx q.2
 qbZ:∀q∈Zat,∃Ca,mg q.1=some (.ref Ca)∧IsX K Ca A.qw q.2
 qeU:∀q∈Zau,∃Ca,mg q.1=some (.ref Ca)∧IsX K Ca A.qK q.2
 qi3:∀q∈Zav,∃Ca,mg q.1=some (.ref Ca)∧IsX K Ca A.qL q.2
 Iw:∀q∈ZbT,∃Ca,mg q.1=some (.ref Ca)∧IsX K Ca A.qj q.2
 qi4:∀q∈Zaw,∃Ca,mg q.1=some (.ref Ca)∧IsX K Ca A.qT q.2
 qeV:∀q∈Zax,∃Ca,mg q.1=some (.ref Ca)∧IsX K Ca A.qI q.2
 qoc:∀q∈Zay,∃Ca,mg q.1=some (.ref Ca)∧IsX K Ca A.Qv q.2
 qod:∀q∈Zaz,∃Ca,mg q.1=some (.ref Ca)∧IsX K Ca A.Qy q.2
 qeW:∀q∈ZaA,∃Ca,mg q.1=some (.ref Ca)∧IsX K Ca A.qJ q.2
 qi5:∀q∈ZaB,∃Ca,mg q.1=some (.ref Ca)∧IsX K Ca A.Qi q.2
 qoe:∀q∈ZaC,∃Ca,mg q.1=some (.ref Ca)∧IsX K Ca A.Qw q.2
 iv_:∀E∈xns,∃Ca,mg E=some (.ref Ca)∧XcT K Ca∧PySem.W.kitOne K (.ref Ca) (.type "ValueError")=some true
 Mq:Za0 K A.qj
 HF:mg "ValueError"=none
 qwq:mg "abs"=none
 qvs:mg "dict"=none
 qcg:mg "enumerate"=none
 qdW:mg "int"=none
 qM:mg "isinstance"=none
 qwr:mg "len"=none
 qvt:mg "list"=none
 qch:mg "range"=none
 qso:mg "repr"=none
section
variable {P:Program} {w:World} {K:PySem.W.Frag} {mg:Str→Option Value} {base:Heap} {A:Ad}
theorem ZgC (T:Txt w K mg A):FnOk P w K mg base CX0 1 A.Xu A.Aa ["self","at"] (spX A.qC ["at"]):=by
 refine T.Nh.ok Zjp Ye fun cdv A' outer s H vs Q E hr h=>⟨_,pss_cons (ps_expr (ZW (by rfl) T.qZ T.qU T.qW T.qX (pa_cons (pv 0) (pa_cons pe_str pa_nil)))) (pss_one (ps_ost (pv 0) (pv 1))),?_⟩
 obtain ⟨a,ws,rfl,hl,ha,k⟩:=h
 match ws,hl,k with
 | [v0],_,k =>
  refine ⟨.ref a,rfl,a,A.qC,[_],rfl,by simp,T.RX.oex,ha,?_⟩
  refine ⟨v0,rfl,.ref a,rfl,a,A.qC,rfl,T.RX.oex,T.Sy,.inl ⟨ha,fun d hd hne=>?_⟩⟩
  exact k d _ hd hne upd_same (by rw [upd_ne hne,upd_same];rfl) fun b h1 h2=>by rw [upd_ne h1,upd_ne h2]
theorem ZgD (T:Txt w K mg A):FnOk P w K mg base CX0 1 A.Rq A.qcQ ["self","table"] (spX A.qY ["table"]):=by
 refine T.HX.ok Zjq Ye fun cdv A' outer s H vs Q E hr h=>⟨_,pss_cons (ps_expr (ZW (by rfl) T.qZ T.qU T.qW T.qX (pa_cons (pv 0) (pa_cons pe_str pa_nil)))) (pss_one (ps_ost (pv 0) (pv 1))),?_⟩
 obtain ⟨a,ws,rfl,hl,ha,k⟩:=h
 match ws,hl,k with
 | [v0],_,k =>
  refine ⟨.ref a,rfl,a,A.qY,[_],rfl,by simp,T.Tw.oex,ha,?_⟩
  refine ⟨v0,rfl,.ref a,rfl,a,A.qY,rfl,T.Tw.oex,T.XS,.inl ⟨ha,fun d hd hne=>?_⟩⟩
  exact k d _ hd hne upd_same (by rw [upd_ne hne,upd_same];rfl) fun b h1 h2=>by rw [upd_ne h1,upd_ne h2]
theorem ZgE (T:Txt w K mg A):FnOk P w K mg base CX0 1 A.Xv A.Ab ["self","at"] (spX A.qD ["at"]):=by
 refine T.Nk.ok Zjr Ye fun cdv A' outer s H vs Q E hr h=>⟨_,pss_cons (ps_expr (ZW (by rfl) T.qZ T.qU T.qW T.qX (pa_cons (pv 0) (pa_cons pe_str pa_nil)))) (pss_one (ps_ost (pv 0) (pv 1))),?_⟩
 obtain ⟨a,ws,rfl,hl,ha,k⟩:=h
 match ws,hl,k with
 | [v0],_,k =>
  refine ⟨.ref a,rfl,a,A.qD,[_],rfl,by simp,T.R3.oex,ha,?_⟩
  refine ⟨v0,rfl,.ref a,rfl,a,A.qD,rfl,T.R3.oex,T.SJ,.inl ⟨ha,fun d hd hne=>?_⟩⟩
  exact k d _ hd hne upd_same (by rw [upd_ne hne,upd_same];rfl) fun b h1 h2=>by rw [upd_ne h1,upd_ne h2]
theorem ZgF (T:Txt w K mg A):FnOk P w K mg base CX0 1 A.Xw A.Ac ["self","name"] (spX A.qF ["name"]):=by
 refine T.Nm.ok Zjs Ye fun cdv A' outer s H vs Q E hr h=>⟨_,pss_cons (ps_expr (ZW (by rfl) T.qZ T.qU T.qW T.qX (pa_cons (pv 0) (pa_cons pe_str pa_nil)))) (pss_one (ps_ost (pv 0) (pv 1))),?_⟩
 obtain ⟨a,ws,rfl,hl,ha,k⟩:=h
 match ws,hl,k with
 | [v0],_,k =>
  refine ⟨.ref a,rfl,a,A.qF,[_],rfl,by simp,T.R4.oex,ha,?_⟩
  refine ⟨v0,rfl,.ref a,rfl,a,A.qF,rfl,T.R4.oex,T.X3,.inl ⟨ha,fun d hd hne=>?_⟩⟩
  exact k d _ hd hne upd_same (by rw [upd_ne hne,upd_same];rfl) fun b h1 h2=>by rw [upd_ne h1,upd_ne h2]
theorem ZgG (T:Txt w K mg A):FnOk P w K mg base CX0 1 A.Q8 A.Mi ["self","at"] (spX A.qd ["at"]):=by
 refine T.XJ.ok Zjt Ye fun cdv A' outer s H vs Q E hr h=>⟨_,pss_cons (ps_expr (ZW (by rfl) T.qZ T.qU T.qW T.qX (pa_cons (pv 0) (pa_cons pe_str pa_nil)))) (pss_one (ps_ost (pv 0) (pv 1))),?_⟩
 obtain ⟨a,ws,rfl,hl,ha,k⟩:=h
 match ws,hl,k with
 | [v0],_,k =>
  refine ⟨.ref a,rfl,a,A.qd,[_],rfl,by simp,T.Xb.oex,ha,?_⟩
  refine ⟨v0,rfl,.ref a,rfl,a,A.qd,rfl,T.Xb.oex,T.Xd,.inl ⟨ha,fun d hd hne=>?_⟩⟩
  exact k d _ hd hne upd_same (by rw [upd_ne hne,upd_same];rfl) fun b h1 h2=>by rw [upd_ne h1,upd_ne h2]
theorem ZgH (T:Txt w K mg A):FnOk P w K mg base CX0 1 A.Rr A.qcR ["self","table","at"] (spX A.qP ["table","at"]):=by
 refine T.HY.ok Zju Ye fun cdv A' outer s H vs Q E hr h=>⟨_,pss_cons (ps_expr (ZW (by rfl) T.qZ T.qU T.qW T.qX (pa_cons (pv 0) (pa_cons pe_str pa_nil)))) (pss_cons (ps_ost (pv 0) (pv 1)) (pss_one (ps_ost (pv 0) (pv 2)))),?_⟩
 obtain ⟨a,ws,rfl,hl,ha,k⟩:=h
 match ws,hl,k with
 | [v0,v1],_,k =>
  refine ⟨.ref a,rfl,a,A.qP,[_],rfl,by simp,T.Rk.oex,ha,?_⟩
  refine ⟨v0,rfl,.ref a,rfl,a,A.qP,rfl,T.Rk.oex,T.X4,.inl ⟨ha,fun d hd hne=>?_⟩⟩
  refine ⟨v1,rfl,.ref a,rfl,a,A.qP,rfl,T.Rk.oex,T.Tz,.inr ⟨d,_,upd_same,by rw [upd_ne hne,upd_same],by simp,?_⟩⟩
  exact k d _ hd hne (by rw [upd_ne (Ne.symm hne),upd_same]) (by rw [upd_same];rfl) fun b h1 h2=>by rw [upd_ne h2,upd_ne h1,upd_ne h2]
theorem ZgI (T:Txt w K mg A):FnOk P w K mg base CX0 1 A.Xh A.Em ["self","at"] (spX A.qp ["at"]):=by
 refine T.Mf.ok Zjv Ye fun cdv A' outer s H vs Q E hr h=>⟨_,pss_cons (ps_expr (ZW (by rfl) T.qZ T.qU T.qW T.qX (pa_cons (pv 0) (pa_cons pe_str pa_nil)))) (pss_one (ps_ost (pv 0) (pv 1))),?_⟩
 obtain ⟨a,ws,rfl,hl,ha,k⟩:=h
 match ws,hl,k with
 | [v0],_,k =>
  refine ⟨.ref a,rfl,a,A.qp,[_],rfl,by simp,T.XM.oex,ha,?_⟩
  refine ⟨v0,rfl,.ref a,rfl,a,A.qp,rfl,T.XM.oex,T.RD,.inl ⟨ha,fun d hd hne=>?_⟩⟩
  exact k d _ hd hne upd_same (by rw [upd_ne hne,upd_same];rfl) fun b h1 h2=>by rw [upd_ne h1,upd_ne h2]
theorem ZgJ (T:Txt w K mg A):FnOk P w K mg base CX0 1 A.Nb A.qmv ["self","limit"] (spX A.QT ["limit"]):=by
 refine T.qcG.ok Zjw Ye fun cdv A' outer s H vs Q E hr h=>⟨_,pss_cons (ps_expr (ZW (by rfl) T.qZ T.qU T.qW T.qX (pa_cons (pv 0) (pa_cons pe_str pa_nil)))) (pss_one (ps_ost (pv 0) (pv 1))),?_⟩
 obtain ⟨a,ws,rfl,hl,ha,k⟩:=h
 match ws,hl,k with
 | [v0],_,k =>
  refine ⟨.ref a,rfl,a,A.QT,[_],rfl,by simp,T.Gm.oex,ha,?_⟩
  refine ⟨v0,rfl,.ref a,rfl,a,A.QT,rfl,T.Gm.oex,T.SM,.inl ⟨ha,fun d hd hne=>?_⟩⟩
  exact k d _ hd hne upd_same (by rw [upd_ne hne,upd_same];rfl) fun b h1 h2=>by rw [upd_ne h1,upd_ne h2]
theorem ZgK (T:Txt w K mg A):FnOk P w K mg base CX0 1 A.Ru A.qcS ["self","place","loop"] (spX A.qQ ["place","loop"]):=by
 refine T.Ge.ok Zjx Ye fun cdv A' outer s H vs Q E hr h=>⟨_,pss_cons (ps_expr (ZW (by rfl) T.qZ T.qU T.qW T.qX (pa_cons (pv 0) (pa_cons pe_str pa_nil)))) (pss_cons (ps_ost (pv 0) (pv 1)) (pss_one (ps_ost (pv 0) (pv 2)))),?_⟩
 obtain ⟨a,ws,rfl,hl,ha,k⟩:=h
 match ws,hl,k with
 | [v0,v1],_,k =>
  refine ⟨.ref a,rfl,a,A.qQ,[_],rfl,by simp,T.Rm.oex,ha,?_⟩
  refine ⟨v0,rfl,.ref a,rfl,a,A.qQ,rfl,T.Rm.oex,T.X5,.inl ⟨ha,fun d hd hne=>?_⟩⟩
  refine ⟨v1,rfl,.ref a,rfl,a,A.qQ,rfl,T.Rm.oex,T.RJ,.inr ⟨d,_,upd_same,by rw [upd_ne hne,upd_same],by simp,?_⟩⟩
  exact k d _ hd hne (by rw [upd_ne (Ne.symm hne),upd_same]) (by rw [upd_same];rfl) fun b h1 h2=>by rw [upd_ne h2,upd_ne h1,upd_ne h2]
theorem ZgL (T:Txt w K mg A):FnOk P w K mg base CX0 1 A.Tn A.qhL ["self","at"] (spX A.Qu ["at"]):=by
 refine T.Ci.ok Zjy Ye fun cdv A' outer s H vs Q E hr h=>⟨_,pss_cons (ps_expr (ZW (by rfl) T.qZ T.qU T.qW T.qX (pa_cons (pv 0) (pa_cons pe_str pa_nil)))) (pss_one (ps_ost (pv 0) (pv 1))),?_⟩
 obtain ⟨a,ws,rfl,hl,ha,k⟩:=h
 match ws,hl,k with
 | [v0],_,k =>
  refine ⟨.ref a,rfl,a,A.Qu,[_],rfl,by simp,T.Mw.oex,ha,?_⟩
  refine ⟨v0,rfl,.ref a,rfl,a,A.Qu,rfl,T.Mw.oex,T.Mj,.inl ⟨ha,fun d hd hne=>?_⟩⟩
  exact k d _ hd hne upd_same (by rw [upd_ne hne,upd_same];rfl) fun b h1 h2=>by rw [upd_ne h1,upd_ne h2]
theorem ZgM (T:Txt w K mg A):FnOk P w K mg base CX0 1 A.Xx A.Ae ["self","name"] (spX A.qG ["name"]):=by
 refine T.Np.ok Zjz Ye fun cdv A' outer s H vs Q E hr h=>⟨_,pss_cons (ps_expr (ZW (by rfl) T.qZ T.qU T.qW T.qX (pa_cons (pv 0) (pa_cons pe_str pa_nil)))) (pss_one (ps_ost (pv 0) (pv 1))),?_⟩
 obtain ⟨a,ws,rfl,hl,ha,k⟩:=h
 match ws,hl,k with
 | [v0],_,k =>
  refine ⟨.ref a,rfl,a,A.qG,[_],rfl,by simp,T.R5.oex,ha,?_⟩
  refine ⟨v0,rfl,.ref a,rfl,a,A.qG,rfl,T.R5.oex,T.X6,.inl ⟨ha,fun d hd hne=>?_⟩⟩
  exact k d _ hd hne upd_same (by rw [upd_ne hne,upd_same];rfl) fun b h1 h2=>by rw [upd_ne h1,upd_ne h2]
theorem ZgN (T:Txt w K mg A):FnOk P w K mg base CX0 1 A.Xc A.Gn ["self"] (Jf A.ql):=by
 refine T.Tv.ok ZjA Vu fun cdv A' outer s H vs Q E hr h=>⟨_,pss_one (ps_expr (ZW (by rfl) T.qZ T.qU T.qW T.qX (pa_cons (pv 0) (pa_cons pe_str pa_nil)))),?_⟩
 obtain ⟨a,rfl,ha,k⟩:=h
 exact ⟨.ref a,rfl,a,A.ql,[_],rfl,by simp,T.R6.oex,ha,k⟩
theorem ZgO (T:Txt w K mg A):FnOk P w K mg base CX0 1 A.Xy A.Af ["self","many"] (spX A.qH ["many"]):=by
 refine T.Nq.ok ZjB Ye fun cdv A' outer s H vs Q E hr h=>⟨_,pss_cons (ps_expr (ZW (by rfl) T.qZ T.qU T.qW T.qX (pa_cons (pv 0) (pa_cons pe_str pa_nil)))) (pss_one (ps_ost (pv 0) (pv 1))),?_⟩
 obtain ⟨a,ws,rfl,hl,ha,k⟩:=h
 match ws,hl,k with
 | [v0],_,k =>
  refine ⟨.ref a,rfl,a,A.qH,[_],rfl,by simp,T.R7.oex,ha,?_⟩
  refine ⟨v0,rfl,.ref a,rfl,a,A.qH,rfl,T.R7.oex,T.X7,.inl ⟨ha,fun d hd hne=>?_⟩⟩
  exact k d _ hd hne upd_same (by rw [upd_ne hne,upd_same];rfl) fun b h1 h2=>by rw [upd_ne h1,upd_ne h2]
theorem ZgP (T:Txt w K mg A):FnOk P w K mg base CX0 1 A.Rv A.qcT ["self"] (Jf A.Qg):=by
 refine T.Gf.ok ZjC Vu fun cdv A' outer s H vs Q E hr h=>⟨_,pss_one (ps_expr (ZW (by rfl) T.qZ T.qU T.qW T.qX (pa_cons (pv 0) (pa_cons pe_str pa_nil)))),?_⟩
 obtain ⟨a,rfl,ha,k⟩:=h
 exact ⟨.ref a,rfl,a,A.Qg,[_],rfl,by simp,T.Nv.oex,ha,k⟩
theorem ZgQ (T:Txt w K mg A):FnOk P w K mg base CX0 1 A.Xi A.Eo ["self","number"] (spX A.qu ["number"]):=by
 refine T.Mg.ok ZjD Ye fun cdv A' outer s H vs Q E hr h=>⟨_,pss_cons (ps_expr (ZW (by rfl) T.qZ T.qU T.qW T.qX (pa_cons (pv 0) (pa_cons pe_str pa_nil)))) (pss_one (ps_ost (pv 0) (pv 1))),?_⟩
 obtain ⟨a,ws,rfl,hl,ha,k⟩:=h
 match ws,hl,k with
 | [v0],_,k =>
  refine ⟨.ref a,rfl,a,A.qu,[_],rfl,by simp,T.XQ.oex,ha,?_⟩
  refine ⟨v0,rfl,.ref a,rfl,a,A.qu,rfl,T.XQ.oex,T.Xe,.inl ⟨ha,fun d hd hne=>?_⟩⟩
  exact k d _ hd hne upd_same (by rw [upd_ne hne,upd_same];rfl) fun b h1 h2=>by rw [upd_ne h1,upd_ne h2]
theorem ZgR (T:Txt w K mg A):FnOk P w K mg base CX0 1 A.Rw A.qcU ["self","stream","index"] (spX A.qR ["stream","index"]):=by
 refine T.Gg.ok ZjE Ye fun cdv A' outer s H vs Q E hr h=>⟨_,pss_cons (ps_expr (ZW (by rfl) T.qZ T.qU T.qW T.qX (pa_cons (pv 0) (pa_cons pe_str pa_nil)))) (pss_cons (ps_ost (pv 0) (pv 1)) (pss_one (ps_ost (pv 0) (pv 2)))),?_⟩
 obtain ⟨a,ws,rfl,hl,ha,k⟩:=h
 match ws,hl,k with
 | [v0,v1],_,k =>
  refine ⟨.ref a,rfl,a,A.qR,[_],rfl,by simp,T.Ro.oex,ha,?_⟩
  refine ⟨v0,rfl,.ref a,rfl,a,A.qR,rfl,T.Ro.oex,T.Xm,.inl ⟨ha,fun d hd hne=>?_⟩⟩
  refine ⟨v1,rfl,.ref a,rfl,a,A.qR,rfl,T.Ro.oex,T.X8,.inr ⟨d,_,upd_same,by rw [upd_ne hne,upd_same],by simp,?_⟩⟩
  exact k d _ hd hne (by rw [upd_ne (Ne.symm hne),upd_same]) (by rw [upd_same];rfl) fun b h1 h2=>by rw [upd_ne h2,upd_ne h1,upd_ne h2]
theorem ZgS (T:Txt w K mg A):FnOk P w K mg base CX0 1 A.Rx A.qcV ["self"] (Jf A.Qh):=by
 refine T.Gh.ok ZjF Vu fun cdv A' outer s H vs Q E hr h=>⟨_,pss_one (ps_expr (ZW (by rfl) T.qZ T.qU T.qW T.qX (pa_cons (pv 0) (pa_cons pe_str pa_nil)))),?_⟩
 obtain ⟨a,rfl,ha,k⟩:=h
 exact ⟨.ref a,rfl,a,A.Qh,[_],rfl,by simp,T.Ny.oex,ha,k⟩
theorem ZgT (T:Txt w K mg A):FnOk P w K mg base CX0 1 A.Tp A.qhM ["self"] (Jf A.Qx):=by
 refine T.Cj.ok ZjG Vu fun cdv A' outer s H vs Q E hr h=>⟨_,pss_one (ps_expr (ZW (by rfl) T.qZ T.qU T.qW T.qX (pa_cons (pv 0) (pa_cons pe_str pa_nil)))),?_⟩
 obtain ⟨a,rfl,ha,k⟩:=h
 exact ⟨.ref a,rfl,a,A.Qx,[_],rfl,by simp,T.G9.oex,ha,k⟩
theorem ZgU (T:Txt w K mg A):FnOk P w K mg base CX0 1 A.Xj A.Ep ["self","name"] (spX A.qw ["name"]):=by
 refine T.Mh.ok ZjH Ye fun cdv A' outer s H vs Q E hr h=>⟨_,pss_cons (ps_expr (ZW (by rfl) T.qZ T.qU T.qW T.qX (pa_cons (pv 0) (pa_cons pe_str pa_nil)))) (pss_one (ps_ost (pv 0) (pv 1))),?_⟩
 obtain ⟨a,ws,rfl,hl,ha,k⟩:=h
 match ws,hl,k with
 | [v0],_,k =>
  refine ⟨.ref a,rfl,a,A.qw,[_],rfl,by simp,T.XR.oex,ha,?_⟩
  refine ⟨v0,rfl,.ref a,rfl,a,A.qw,rfl,T.XR.oex,T.Xn,.inl ⟨ha,fun d hd hne=>?_⟩⟩
  exact k d _ hd hne upd_same (by rw [upd_ne hne,upd_same];rfl) fun b h1 h2=>by rw [upd_ne h1,upd_ne h2]
theorem ZgV (T:Txt w K mg A):FnOk P w K mg base CX0 1 A.Xz A.Ag ["self"] (Jf A.qK):=by
 refine T.Nr.ok ZjI Vu fun cdv A' outer s H vs Q E hr h=>⟨_,pss_one (ps_expr (ZW (by rfl) T.qZ T.qU T.qW T.qX (pa_cons (pv 0) (pa_cons pe_str pa_nil)))),?_⟩
 obtain ⟨a,rfl,ha,k⟩:=h
 exact ⟨.ref a,rfl,a,A.qK,[_],rfl,by simp,T.T7.oex,ha,k⟩
theorem ZgW (T:Txt w K mg A):FnOk P w K mg base CX0 1 A.Ry A.qcW ["self","stream","index","word"] (spX A.qL ["stream","index","word"]):=by
 refine T.Gi.ok ZjJ Ye fun cdv A' outer s H vs Q E hr h=>⟨_,pss_cons (ps_expr (ZW (by rfl) T.qZ T.qU T.qW T.qX (pa_cons (pv 0) (pa_cons pe_str pa_nil)))) (pss_cons (ps_ost (pv 0) (pv 1)) (pss_cons (ps_ost (pv 0) (pv 2)) (pss_one (ps_ost (pv 0) (pv 3))))),?_⟩
 obtain ⟨a,ws,rfl,hl,ha,k⟩:=h
 match ws,hl,k with
 | [v0,v1,v2],_,k =>
  refine ⟨.ref a,rfl,a,A.qL,[_],rfl,by simp,T.Xl.oex,ha,?_⟩
  refine ⟨v0,rfl,.ref a,rfl,a,A.qL,rfl,T.Xl.oex,T.Xo,.inl ⟨ha,fun d hd hne=>?_⟩⟩
  refine ⟨v1,rfl,.ref a,rfl,a,A.qL,rfl,T.Xl.oex,T.Ra,.inr ⟨d,_,upd_same,by rw [upd_ne hne,upd_same],by simp,?_⟩⟩
  refine ⟨v2,rfl,.ref a,rfl,a,A.qL,rfl,T.Xl.oex,T.RK,.inr ⟨d,_,by rw [upd_ne (Ne.symm hne),upd_same],upd_same,by simp,?_⟩⟩
  exact k d _ hd hne (by rw [upd_ne (Ne.symm hne),upd_ne (Ne.symm hne),upd_same]) (by rw [upd_same];rfl) fun b h1 h2=>by rw [upd_ne h2,upd_ne h2,upd_ne h1,upd_ne h2]
theorem ZgX (T:Txt w K mg A):FnOk P w K mg base CX0 1 A.Rz A.qcX ["self","table","column"] (spX A.qT ["table","column"]):=by
 refine T.Gj.ok ZjK Ye fun cdv A' outer s H vs Q E hr h=>⟨_,pss_cons (ps_expr (ZW (by rfl) T.qZ T.qU T.qW T.qX (pa_cons (pv 0) (pa_cons pe_str pa_nil)))) (pss_cons (ps_ost (pv 0) (pv 1)) (pss_one (ps_ost (pv 0) (pv 2)))),?_⟩
 obtain ⟨a,ws,rfl,hl,ha,k⟩:=h
 match ws,hl,k with
 | [v0,v1],_,k =>
  refine ⟨.ref a,rfl,a,A.qT,[_],rfl,by simp,T.Rp.oex,ha,?_⟩
  refine ⟨v0,rfl,.ref a,rfl,a,A.qT,rfl,T.Rp.oex,T.Rb,.inl ⟨ha,fun d hd hne=>?_⟩⟩
  refine ⟨v1,rfl,.ref a,rfl,a,A.qT,rfl,T.Rp.oex,T.Xp,.inr ⟨d,_,upd_same,by rw [upd_ne hne,upd_same],by simp,?_⟩⟩
  exact k d _ hd hne (by rw [upd_ne (Ne.symm hne),upd_same]) (by rw [upd_same];rfl) fun b h1 h2=>by rw [upd_ne h2,upd_ne h1,upd_ne h2]
theorem ZgY (T:Txt w K mg A):FnOk P w K mg base CX0 1 A.XC A.Ah ["self","limit"] (spX A.qI ["limit"]):=by
 refine T.Nt.ok ZjL Ye fun cdv A' outer s H vs Q E hr h=>⟨_,pss_cons (ps_expr (ZW (by rfl) T.qZ T.qU T.qW T.qX (pa_cons (pv 0) (pa_cons pe_str pa_nil)))) (pss_one (ps_ost (pv 0) (pv 1))),?_⟩
 obtain ⟨a,ws,rfl,hl,ha,k⟩:=h
 match ws,hl,k with
 | [v0],_,k =>
  refine ⟨.ref a,rfl,a,A.qI,[_],rfl,by simp,T.R8.oex,ha,?_⟩
  refine ⟨v0,rfl,.ref a,rfl,a,A.qI,rfl,T.R8.oex,T.Xq,.inl ⟨ha,fun d hd hne=>?_⟩⟩
  exact k d _ hd hne upd_same (by rw [upd_ne hne,upd_same];rfl) fun b h1 h2=>by rw [upd_ne h1,upd_ne h2]
theorem ZgZ (T:Txt w K mg A):FnOk P w K mg base CX0 1 A.Tq A.qhN ["self","table"] (spX A.Qv ["table"]):=by
 refine T.Ck.ok ZjM Ye fun cdv A' outer s H vs Q E hr h=>⟨_,pss_cons (ps_expr (ZW (by rfl) T.qZ T.qU T.qW T.qX (pa_cons (pv 0) (pa_cons pe_str pa_nil)))) (pss_one (ps_ost (pv 0) (pv 1))),?_⟩
 obtain ⟨a,ws,rfl,hl,ha,k⟩:=h
 match ws,hl,k with
 | [v0],_,k =>
  refine ⟨.ref a,rfl,a,A.Qv,[_],rfl,by simp,T.Mz.oex,ha,?_⟩
  refine ⟨v0,rfl,.ref a,rfl,a,A.Qv,rfl,T.Mz.oex,T.RL,.inl ⟨ha,fun d hd hne=>?_⟩⟩
  exact k d _ hd hne upd_same (by rw [upd_ne hne,upd_same];rfl) fun b h1 h2=>by rw [upd_ne h1,upd_ne h2]
theorem Zg0 (T:Txt w K mg A):FnOk P w K mg base CX0 1 A.Tr A.qhO ["self"] (Jf A.Qy):=by
 refine T.Cm.ok ZjN Vu fun cdv A' outer s H vs Q E hr h=>⟨_,pss_one (ps_expr (ZW (by rfl) T.qZ T.qU T.qW T.qX (pa_cons (pv 0) (pa_cons pe_str pa_nil)))),?_⟩
 obtain ⟨a,rfl,ha,k⟩:=h
 exact ⟨.ref a,rfl,a,A.Qy,[_],rfl,by simp,T.Fb.oex,ha,k⟩
theorem Zg1 (T:Txt w K mg A):FnOk P w K mg base CX0 1 A.XD A.Ai ["self","name"] (spX A.qJ ["name"]):=by
 refine T.Nu.ok ZjO Ye fun cdv A' outer s H vs Q E hr h=>⟨_,pss_cons (ps_expr (ZW (by rfl) T.qZ T.qU T.qW T.qX (pa_cons (pv 0) (pa_cons pe_str pa_nil)))) (pss_one (ps_ost (pv 0) (pv 1))),?_⟩
 obtain ⟨a,ws,rfl,hl,ha,k⟩:=h
 match ws,hl,k with
 | [v0],_,k =>
  refine ⟨.ref a,rfl,a,A.qJ,[_],rfl,by simp,T.R9.oex,ha,?_⟩
  refine ⟨v0,rfl,.ref a,rfl,a,A.qJ,rfl,T.R9.oex,T.Rf,.inl ⟨ha,fun d hd hne=>?_⟩⟩
  exact k d _ hd hne upd_same (by rw [upd_ne hne,upd_same];rfl) fun b h1 h2=>by rw [upd_ne h1,upd_ne h2]
theorem Zg2 (T:Txt w K mg A):FnOk P w K mg base CX0 1 A.RB A.qcY ["self"] (Jf A.Qi):=by
 refine T.Gk.ok ZjP Vu fun cdv A' outer s H vs Q E hr h=>⟨_,pss_one (ps_expr (ZW (by rfl) T.qZ T.qU T.qW T.qX (pa_cons (pv 0) (pa_cons pe_str pa_nil)))),?_⟩
 obtain ⟨a,rfl,ha,k⟩:=h
 exact ⟨.ref a,rfl,a,A.Qi,[_],rfl,by simp,T.Nz.oex,ha,k⟩
theorem Zg3 (T:Txt w K mg A):FnOk P w K mg base CX0 1 A.Tt A.qhP ["self","place"] (spX A.Qw ["place"]):=by
 refine T.Cp.ok ZjQ Ye fun cdv A' outer s H vs Q E hr h=>⟨_,pss_cons (ps_expr (ZW (by rfl) T.qZ T.qU T.qW T.qX (pa_cons (pv 0) (pa_cons pe_str pa_nil)))) (pss_one (ps_ost (pv 0) (pv 1))),?_⟩
 obtain ⟨a,ws,rfl,hl,ha,k⟩:=h
 match ws,hl,k with
 | [v0],_,k =>
  refine ⟨.ref a,rfl,a,A.Qw,[_],rfl,by simp,T.MF.oex,ha,?_⟩
  refine ⟨v0,rfl,.ref a,rfl,a,A.Qw,rfl,T.MF.oex,T.RM,.inl ⟨ha,fun d hd hne=>?_⟩⟩
  exact k d _ hd hne upd_same (by rw [upd_ne hne,upd_same];rfl) fun b h1 h2=>by rw [upd_ne h1,upd_ne h2]
theorem ZhW (T:Txt w K mg A):FnG P w K mg base 1 A.BR A.Ei ["_law_script"] (spD ⟨K,w,mg,none⟩ 1 Km):=by
 refine JC (body:=Zc5) T.T6 El rfl rfl (by decide) fun cdv A' outer s H E hG hr=>?_
 exact (Z6 (Yz (ZC .g (Zd Zj (Zd Zj (Zd Zj (Zd (ZfA .z [("_law_cell",1)] El.nd (Zdl (ZfF (ZiW .z) (Ze 0) ZfI (ZfJ Zj))) (Za9 (N:=["_law_script","_law_cell"]) (sc:=defScope Vr) (by decide +kernel)) (fun _ _ _ _ _=>(Zbj 1 El.nd)) (fun _ _ _ _ _=>Zbk) (fun _ _ _ _ _=>(Zy Zfl (by rfl) T.qwq (by decide +kernel) (Zd (Ze 1) Zg)))) Zg)))))))
theorem Zh0 (T:Txt w K mg A):FnG P w K mg base 1 A.Eh A.Hr ["_law_bag_here","_law_most"] (spD ⟨K,w,mg,none⟩ 2 Ko):=by
 refine JC (body:=Zc6) T.RN Xk rfl rfl (by decide) fun cdv A' outer s H E hG hr=>?_
 exact (Zw (YM (Vc (ZaI (u64 hr)) (Zt (Zu (u65 hr)) (Ze 0) Zj) Zj) (Zw (Z0 2 Xk.nd Zj)
   (Zw (YM (Vc Zij (Zt (Zu (u65 hr)) (Ze 0) Zj) (Zy Zfm (by rfl) T.qwr (by decide +kernel) (Zd (Zt (Zu (u65 hr)) (Ze 0) Zj) Zg))) (Z6 (Z0 2 Xk.nd (Zt (Zu (u65 hr)) (Zt (Zu (u65 hr)) (Ze 0) Zj) (Zt (Zu (u65 hr)) (Ze 0) Zj)))) YQ)
   (Zw (ZfM Zg6 (Ze 0) Zj Zj)
   (Zw (YM (Vc Zic (Ze 2) (Zx Zem Zj Zj)) (Z6 (Kv (Ze 2) (Ks (ZaQ (u65 hr)) (Ze 0) Zj))) YQ)
   (Zw (Z0 3 Xk.nd (Zx (Yr .z) (Zx (Yr .z) (Zx (V3 .z) (Zt (Zu (u65 hr)) (Ze 0) Zj) Zj) (Zx JN (Jm Jk (by rfl) T.qdW (by decide +kernel) (Zd (Ze 2) Zg)) Zj)) (Zx (V3 .z) Zj (Zt (Zu (u65 hr)) (Ze 0) Zj))))
   (Z6 (Kv (Zx JN (Jm Jk (by rfl) T.qdW (by decide +kernel) (Zd (Ze 3) Zg)) Zj) (Ks (ZaQ (u65 hr)) (Ze 0) Zj)))))))) YQ)
   (Zw (YM (Vc Zej (Zt (Zu (u65 hr)) (Ze 0) Zj) Zj) (Zw (Z0 4 Xk.nd (Zx JN (Jm Jk (by rfl) T.qdW (by decide +kernel) (Zd (Zt (Zu (u65 hr)) (Ze 0) Zj) Zg)) (Ze 1)))
   (Zw (Kv (Zx Zei (Jm Jk (by rfl) T.qdW (by decide +kernel) (Zd (Zt (Zu (u65 hr)) (Ze 0) Zj) Zg)) (Ze 1)) (Ks (ZaQ (u65 hr)) (Ze 0) Zj))
   (Z6 (Yz (Ze 4))))) YQ)
   (Zw (Z0 5 Xk.nd (Zx JN (Jm Jk (by rfl) T.qdW (by decide +kernel) (Zd (Zx (V3 .z) (Zx (Yr .z) (Zt (Zu (u65 hr)) (Ze 0) Zj) Zj) Zj) Zg)) Zj))
   (Zw (Z0 6 Xk.nd (Zx JN (Jm Jk (by rfl) T.qdW (by decide +kernel) (Zd (Zx (V3 .z) (Ze 5) (Ze 5)) Zg)) Zj))
   (Zw (Z0 6 Xk.nd (Zx JN (Jm Jk (by rfl) T.qdW (by decide +kernel) (Zd (Zx (V3 .z) (Ze 6) Zj) Zg)) Zj))
   (Zw (YM (Vc Zej (Ze 1) Zj) (Z6 (Yz (Zx JN (Jm Jk (by rfl) T.qdW (by decide +kernel) (Zd (Zx (Yr .z) (Zx (V3 .z) (Ze 6) Zj) (Ze 5)) Zg)) (Ze 1)))) YQ)
   (Z6 (Yz (Zx JN (Jm Jk (by rfl) T.qdW (by decide +kernel) (Zd (Zx Zei (Ze 6) Zj) Zg)) (Ze 1))))))))))
theorem ZhV (T:Txt w K mg A):FnG P w K mg base 1 A.Hh A.NZ ["_law_one","_law_other"] (spD ⟨K,w,mg,none⟩ 2 U9):=by
 refine JC (body:=W4) T.RQ ZiN rfl rfl (by decide) fun cdv A' outer s H E hG hr=>?_
 exact (Z6 (Yz (Zfx (Zbf (Zeh (u66 hr) (ZaI (u64 hr))) (Ze 0) (Ze 1)) (ZfE (Zbf (Zeh (u66 hr) (ZaI (u64 hr))) (Zy (Zdd hG (u64 hr)) (by rfl) T.qso (by decide +kernel) (Zd (Ze 0) Zg)) (Zy (Zdd hG (u64 hr)) (by rfl) T.qso (by decide +kernel) (Zd (Ze 1) Zg)))))))
theorem Zh1 (T:Txt w K mg A):FnG P w K mg base 2 A.Hi A.N5 ["_law_bag_here"] (spD ⟨K,w,mg,none⟩ 1 Kr):=by
 have qbh:=Zh0 (P:=P) (w:=w) (base:=base) T
 refine JC (body:=W9) T.RW Cd rfl rfl (by decide) fun cdv A' outer s H E hG hr=>?_
 exact (Zw (Z0 1 Cd.nd (ZC .z (Zd (Zx Zit (Jl qbh hG (hr.mono (by decide)) T.Ek T.RN.kp T.T9 (takes_of rfl rfl rfl rfl) (Zd (Ze 0) (Zd Zj Zg)) (YC (YC Jt))) Zj) (Zd (Zx Zem Zj Zj) (Zd J9 (Zd J9 (Zd J5 (Zd ZfD (Zd (Zdj (Zd Zj (Zd (Zdj (Zd Zj Zg)) Zg))) (Zd (ZC .g (Zd Zj (Zd (ZC .z (Zd Zj Zg)) Zg))) (Zd (Zfz .g (u65 hr) (ZfK J9 Zj ZfL)) (Zd (ZC .g Zg) (Zd (ZC .g (Zd J9 Zg)) Zg)))))))))))))
   (Z6 (Yz (Zt (Zu (u65 hr)) (Ze 1) (Jl qbh hG (hr.mono (by decide)) T.Ek T.RN.kp T.T9 (takes_of rfl rfl rfl rfl) (Zd (Ze 0) (Zd Zj Zg)) (YC (YC Jt)))))))
theorem ZhY (T:Txt w K mg A):FnG P w K mg base 3 A.NK A.M6 ["_law_one","_law_two","_law_three"] (spD ⟨K,w,mg,none⟩ 3 Wb):=by
 have qrB:=ZgC (P:=P) (w:=w) (base:=base) T
 have quc:=ZgD (P:=P) (w:=w) (base:=base) T
 have qrC:=ZgE (P:=P) (w:=w) (base:=base) T
 have qrD:=ZgF (P:=P) (w:=w) (base:=base) T
 have qdM:=ZgG (P:=P) (w:=w) (base:=base) T
 have qud:=ZgH (P:=P) (w:=w) (base:=base) T
 have qpe:=ZgI (P:=P) (w:=w) (base:=base) T
 have qv9:=ZgJ (P:=P) (w:=w) (base:=base) T
 have que:=ZgK (P:=P) (w:=w) (base:=base) T
 have qvw:=ZgL (P:=P) (w:=w) (base:=base) T
 have qrE:=ZgM (P:=P) (w:=w) (base:=base) T
 have qlN:=ZgN (P:=P) (w:=w) (base:=base) T
 have qrF:=ZgO (P:=P) (w:=w) (base:=base) T
 have quf:=ZgP (P:=P) (w:=w) (base:=base) T
 have qpf:=ZgQ (P:=P) (w:=w) (base:=base) T
 have qug:=ZgR (P:=P) (w:=w) (base:=base) T
 have quh:=ZgS (P:=P) (w:=w) (base:=base) T
 have qvx:=ZgT (P:=P) (w:=w) (base:=base) T
 have qpg:=ZgU (P:=P) (w:=w) (base:=base) T
 have qrG:=ZgV (P:=P) (w:=w) (base:=base) T
 have qui:=ZgW (P:=P) (w:=w) (base:=base) T
 have quj:=ZgX (P:=P) (w:=w) (base:=base) T
 have qrH:=ZgY (P:=P) (w:=w) (base:=base) T
 have qvy:=ZgZ (P:=P) (w:=w) (base:=base) T
 have qvz:=Zg0 (P:=P) (w:=w) (base:=base) T
 have qrI:=Zg1 (P:=P) (w:=w) (base:=base) T
 have quk:=Zg2 (P:=P) (w:=w) (base:=base) T
 have qvA:=Zg3 (P:=P) (w:=w) (base:=base) T
 refine JC (body:=W7) T.Rg Rj rfl rfl (by decide) fun cdv A' outer s H E hG hr=>?_
 exact (Zw (Z0 3 Rj.nd (ZC .z (Zd (Yb T.Xl T.qaZ T.Bl T.Bv qui (hr.mono (by decide)) T.CG (Zd (Ze 0) (Zd (Ze 1) (Zd (Ze 2) Zg)))) (Zd (Yb T.Rp T.qa0 T.Bm T.Bw quj (hr.mono (by decide)) T.CJ (Zd (Ze 0) (Zd (Ze 1) Zg))) (Zd (Yb T.Rk T.qaU T.Bb T.Bq qud (hr.mono (by decide)) T.Cr (Zd (Ze 0) (Zd (Ze 1) Zg))) (Zd (Yb T.Rm T.qaV T.Bc T.Br que (hr.mono (by decide)) T.Cu (Zd (Ze 0) (Zd (Ze 1) Zg))) (Zd (Yb T.Ro T.qaX T.Bg T.Bt qug (hr.mono (by decide)) T.Cy (Zd (Ze 0) (Zd (Ze 1) Zg))) Zg)))))))
   (Zw (Z0 3 Rj.nd (Zx (Yr .z) (Ze 3) (ZC .z (Zd (Yb T.MF T.qhm T.qbb T.qbg qvA (hr.mono (by decide)) T.qa6 (Zd (Ze 0) Zg)) (Zd (Yb T.Tw T.qaT T.Ba T.Bp quc (hr.mono (by decide)) T.Cq (Zd (Ze 0) Zg)) (Zd (Yb T.Xb T.Tj T.Sw T.SN qdM (hr.mono (by decide)) T.Sv (Zd (Ze 0) Zg)) (Zd (Yb T.R3 T.Du T.Fe T.Fw qrC (hr.mono (by decide)) T.GZ (Zd (Ze 0) Zg)) (Zd (Yb T.R9 T.DQ T.Ft T.FZ qrI (hr.mono (by decide)) T.G8 (Zd (Ze 0) Zg)) (Zd (Yb T.XR T.GP T.Pk T.Pr qpg (hr.mono (by decide)) T.Pa (Zd (Ze 0) Zg)) Zg)))))))))
   (Zw (Z0 3 Rj.nd (Zx (Yr .z) (Ze 3) (ZC .z (Zd (Yb T.R5 T.Dz T.Fj T.Fy qrE (hr.mono (by decide)) T.G4 (Zd (Ze 0) Zg)) (Zd (Yb T.RX T.Dt T.Fd T.Fv qrB (hr.mono (by decide)) T.GX (Zd (Ze 0) Zg)) (Zd (Yb T.XM T.GF T.Ph T.Pn qpe (hr.mono (by decide)) T.N7 (Zd (Ze 0) Zg)) (Zd (Yb T.R4 T.Dy T.Fg T.Fx qrD (hr.mono (by decide)) T.G3 (Zd (Ze 0) Zg)) (Zd (Yb T.Mw T.qhi T.qa7 T.qbc qvw (hr.mono (by decide)) T.qa2 (Zd (Ze 0) Zg)) (Zd (Yb T.XQ T.GJ T.Pj T.Pq qpf (hr.mono (by decide)) T.N8 (Zd (Ze 0) Zg)) (Zd (Yb T.Mz T.qhk T.qa9 T.qbe qvy (hr.mono (by decide)) T.qa4 (Zd (Ze 0) Zg)) Zg))))))))))
   (Zw (Z0 3 Rj.nd (Zx (Yr .z) (Ze 3) (ZC .z (Zd (Yb T.R8 T.DP T.Fq T.FT qrH (hr.mono (by decide)) T.G7 (Zd (Ze 0) Zg)) (Zd (Yb T.Gm T.qn9 T.qhS T.qh2 qv9 (hr.mono (by decide)) T.qhH (Zd (Ze 0) Zg)) (Zd (Yb T.R7 T.DK T.Fo T.FJ qrF (hr.mono (by decide)) T.G5 (Zd (Ze 0) Zg)) (Zd (J8 T.G9 T.qhj T.qa8 T.qbd qvx (hr.mono (by decide)) T.qa3) (Zd (J8 T.Nz T.qa1 T.Bo T.Bx quk (hr.mono (by decide)) T.CK) (Zd (J8 T.Nv T.qaW T.Bf T.Bs quf (hr.mono (by decide)) T.Cv) (Zd (J8 T.Fb T.qhl T.qba T.qbf qvz (hr.mono (by decide)) T.qa5) (Zd (J8 T.T7 T.DN T.Fp T.FQ qrG (hr.mono (by decide)) T.G6) (Zd (J8 T.Ny T.qaY T.Bj T.Bu quh (hr.mono (by decide)) T.Cz) Zg))))))))))))
   (Z6 (Yz (Zx (Yr .z) (Ze 3) (ZC .z (Zd (J8 T.R6 T.N6 T.MJ T.MK qlN (hr.mono (by decide)) T.Mv) Zg)))))))))
theorem ZhX (T:Txt w K mg A):FnG P w K mg base 1 A.M4 A.Ma ["_law_e"] (spD ⟨K,w,mg,none⟩ 1 Vb):=by
 refine JC (body:=W6) T.Xf Xa rfl rfl (by decide) fun cdv A' outer s H E hG hr=>?_
 exact (Zw (Z0 1 Xa.nd (ZC .z (Zd (Zy (ZJ T.qaZ T.qi3) (by rfl) T.qM (by decide +kernel) (Zd (Ze 0) (Zd (ZK T.qaZ) Zg))) (Zd (Zy (ZJ T.qa0 T.qi4) (by rfl) T.qM (by decide +kernel) (Zd (Ze 0) (Zd (ZK T.qa0) Zg))) (Zd (Zy (ZJ T.qaU T.qiY) (by rfl) T.qM (by decide +kernel) (Zd (Ze 0) (Zd (ZK T.qaU) Zg))) (Zd (Zy (ZJ T.qaV T.qiZ) (by rfl) T.qM (by decide +kernel) (Zd (Ze 0) (Zd (ZK T.qaV) Zg))) Zg))))))
   (Zw (Z0 1 Xa.nd (Zx (Yr .z) (Ze 1) (ZC .z (Zd (Zy (ZJ T.qaX T.qi1) (by rfl) T.qM (by decide +kernel) (Zd (Ze 0) (Zd (ZK T.qaX) Zg))) (Zd (Zy (ZJ T.qhm T.qoe) (by rfl) T.qM (by decide +kernel) (Zd (Ze 0) (Zd (ZK T.qhm) Zg))) (Zd (Zy (ZJ T.qaT T.qiX) (by rfl) T.qM (by decide +kernel) (Zd (Ze 0) (Zd (ZK T.qaT) Zg))) (Zd (Zy (ZJ T.Tj T.Ht) (by rfl) T.qM (by decide +kernel) (Zd (Ze 0) (Zd (ZK T.Tj) Zg))) Zg)))))))
   (Zw (Z0 1 Xa.nd (Zx (Yr .z) (Ze 1) (ZC .z (Zd (Zy (ZJ T.Du T.qeQ) (by rfl) T.qM (by decide +kernel) (Zd (Ze 0) (Zd (ZK T.Du) Zg))) (Zd (Zy (ZJ T.DQ T.qeW) (by rfl) T.qM (by decide +kernel) (Zd (Ze 0) (Zd (ZK T.DQ) Zg))) (Zd (Zy (ZJ T.GP T.qbZ) (by rfl) T.qM (by decide +kernel) (Zd (Ze 0) (Zd (ZK T.GP) Zg))) (Zd (Zy (ZJ T.Dz T.qeS) (by rfl) T.qM (by decide +kernel) (Zd (Ze 0) (Zd (ZK T.Dz) Zg))) Zg)))))))
   (Zw (Z0 1 Xa.nd (Zx (Yr .z) (Ze 1) (ZC .z (Zd (Zy (ZJ T.Dt T.qeP) (by rfl) T.qM (by decide +kernel) (Zd (Ze 0) (Zd (ZK T.Dt) Zg))) (Zd (Zy (ZJ T.GF T.qbX) (by rfl) T.qM (by decide +kernel) (Zd (Ze 0) (Zd (ZK T.GF) Zg))) (Zd (Zy (ZJ T.Dy T.qeR) (by rfl) T.qM (by decide +kernel) (Zd (Ze 0) (Zd (ZK T.Dy) Zg))) (Zd (Zy (ZJ T.qhi T.qoa) (by rfl) T.qM (by decide +kernel) (Zd (Ze 0) (Zd (ZK T.qhi) Zg))) Zg)))))))
   (Zw (Z0 1 Xa.nd (Zx (Yr .z) (Ze 1) (ZC .z (Zd (Zy (ZJ T.GJ T.qbY) (by rfl) T.qM (by decide +kernel) (Zd (Ze 0) (Zd (ZK T.GJ) Zg))) (Zd (Zy (ZJ T.qhk T.qoc) (by rfl) T.qM (by decide +kernel) (Zd (Ze 0) (Zd (ZK T.qhk) Zg))) (Zd (Zy (ZJ T.DP T.qeV) (by rfl) T.qM (by decide +kernel) (Zd (Ze 0) (Zd (ZK T.DP) Zg))) (Zd (Zy (ZJ T.qn9 T.qsi) (by rfl) T.qM (by decide +kernel) (Zd (Ze 0) (Zd (ZK T.qn9) Zg))) Zg)))))))
   (Zw (Z0 1 Xa.nd (Zx (Yr .z) (Ze 1) (ZC .z (Zd (Zy (ZJ T.DK T.qeT) (by rfl) T.qM (by decide +kernel) (Zd (Ze 0) (Zd (ZK T.DK) Zg))) (Zd (Zy (ZJ T.qhj T.qob) (by rfl) T.qM (by decide +kernel) (Zd (Ze 0) (Zd (ZK T.qhj) Zg))) (Zd (Zy (ZJ T.qa1 T.qi5) (by rfl) T.qM (by decide +kernel) (Zd (Ze 0) (Zd (ZK T.qa1) Zg))) (Zd (Zy (ZJ T.qaW T.qi0) (by rfl) T.qM (by decide +kernel) (Zd (Ze 0) (Zd (ZK T.qaW) Zg))) Zg)))))))
   (Zw (Z0 1 Xa.nd (Zx (Yr .z) (Ze 1) (ZC .z (Zd (Zy (ZJ T.qhl T.qod) (by rfl) T.qM (by decide +kernel) (Zd (Ze 0) (Zd (ZK T.qhl) Zg))) (Zd (Zy (ZJ T.DN T.qeU) (by rfl) T.qM (by decide +kernel) (Zd (Ze 0) (Zd (ZK T.DN) Zg))) (Zd (Zy (ZJ T.qaY T.qi2) (by rfl) T.qM (by decide +kernel) (Zd (Ze 0) (Zd (ZK T.qaY) Zg))) (Zd (Zy (ZJ T.N6 T.Iv) (by rfl) T.qM (by decide +kernel) (Zd (Ze 0) (Zd (ZK T.N6) Zg))) Zg)))))))
   (Z6 (Yz (Ze 1))))))))))
theorem ZhZ (T:Txt w K mg A):FnG P w K mg base 1 A.NP A.M7 ["_law_some"] (spD ⟨K,w,mg,none⟩ 1 VG):=by
 refine JC (body:=W8) T.Rh Xr rfl rfl (by decide) fun cdv A' outer s H E hG hr=>?_
 exact (Zw (Z0 1 Xr.nd (ZC .z (Zd (ZZ T.qbW T.qbU (Zt (Zu (u65 hr)) (Ze 0) Zj)) (Zd (ZZ T.Ds T.Dr (Zt (Zu (u65 hr)) (Ze 0) Zj)) (Zd (ZZ T.Ds T.Dr (Zt (Zu (u65 hr)) (Ze 0) Zj)) (Zd (ZZ T.qhh T.qhe (Zt (Zu (u65 hr)) (Ze 0) Zj)) (Zd (ZZ T.qbW T.qbU (Zt (Zu (u65 hr)) (Ze 0) Zj)) (Zd (ZZ T.qhh T.qhe (Zt (Zu (u65 hr)) (Ze 0) Zj)) Zg))))))))
   (Zw (Z0 1 Xr.nd (Zx (Yr .z) (Ze 1) (ZC .z (Zd (ZZ T.Ds T.Dr (Zt (Zu (u65 hr)) (Ze 0) Zj)) (Zd (ZZ T.ql2 T.ql1 (Zt (Zu (u65 hr)) (Ze 0) Zj)) (Zd (ZZ T.ql2 T.ql1 (Zt (Zu (u65 hr)) (Ze 0) Zj)) (Zd (ZZ T.qbV T.qbT (Zt (Zu (u65 hr)) (Ze 0) Zj)) (Zd (ZZ T.qbV T.qbT (Zt (Zu (u65 hr)) (Ze 0) Zj)) (Zd (ZZ T.qbV T.qbT (Zt (Zu (u65 hr)) (Ze 0) Zj)) (Zd (ZZ T.ql2 T.ql1 (Zt (Zu (u65 hr)) (Ze 0) Zj)) Zg))))))))))
   (Zw (Z0 1 Xr.nd (Zx (Yr .z) (Ze 1) (ZC .z (Zd (ZZ T.ql2 T.ql1 (Zt (Zu (u65 hr)) (Ze 0) Zj)) (Zd (ZZ T.qbV T.qbT (Zt (Zu (u65 hr)) (Ze 0) Zj)) (Zd (ZZ T.ql2 T.ql1 (Zt (Zu (u65 hr)) (Ze 0) Zj)) (Zd (ZZ T.qiW T.qiU (Zt (Zu (u65 hr)) (Ze 0) Zj)) (Zd (ZZ T.Ds T.Dr (Zt (Zu (u65 hr)) (Ze 0) Zj)) (Zd (ZZ T.qhg T.qhd (Zt (Zu (u65 hr)) (Ze 0) Zj)) Zg)))))))))
   (Zw (Z0 1 Xr.nd (Zx (Yr .z) (Ze 1) (ZC .z (Zd (ZZ T.qhg T.qhd (Zt (Zu (u65 hr)) (Ze 0) Zj)) (Zd (ZZ T.qsa T.qr7 (Zt (Zu (u65 hr)) (Ze 0) Zj)) Zg)))))
   (Zw (Z0 2 Xr.nd (ZC .z (Zd (ZZ T.qhf T.qhc (Zt (Zu (u65 hr)) (Ze 0) Zj)) (Zd (ZZ T.qiV T.qiT (Zt (Zu (u65 hr)) (Ze 0) Zj)) (Zd (ZZ T.ql2 T.ql1 (Zt (Zu (u65 hr)) (Ze 0) Zj)) (Zd (ZZ T.qr9 T.qr6 (Zt (Zu (u65 hr)) (Ze 0) Zj)) (Zd (ZZ T.qhf T.qhc (Zt (Zu (u65 hr)) (Ze 0) Zj)) Zg)))))))
   (Z6 (Yz (ZC .z (Zd (Ze 1) (Zd (Ze 2) (Zd (ZC .z (Zd (ZZ T.qsb T.qr8 (Zt (Zu (u65 hr)) (Ze 0) Zj)) Zg)) Zg)))))))))))
theorem Zh2 (T:Txt w K mg A):FnG P w K mg base 4 A.qvB A.qr5 ["_law_script"] (spD ⟨K,w,mg,none⟩ 1 BX):=by
 have qh3:=ZhV (P:=P) (w:=w) (base:=base) T
 have qpd:=ZhW (P:=P) (w:=w) (base:=base) T
 have Ea:=ZhX (P:=P) (w:=w) (base:=base) T
 have qg2:=ZhY (P:=P) (w:=w) (base:=base) T
 have qg3:=ZhZ (P:=P) (w:=w) (base:=base) T
 have qh4:=Zh1 (P:=P) (w:=w) (base:=base) T
 refine JC (body:=Ka) T.qrA Mu rfl rfl (by decide) fun cdv A' outer s H E hG hr=>?_
 exact (Zw (Z0 1 Mu.nd (Jl qpd hG (hr.mono (by decide)) T.qeO T.T6.kp T.Gz (takes_of rfl rfl rfl rfl) (Zd (Ze 0) Zg) (YC Jt)))
   (Zw (Wd (passes_of rfl) (Ky (Ku (by rfl) T.qch (Zd Zj Zg))) (VH 2 Mu.nd) (Zw (ZfO .z 3 [("_law_k",10)] Mu.nd (Ky (Ku (by rfl) T.qch (Zd Zj Zg))) (Za9 (N:=["_law_script","_law_bag_here","_law_turn","_law_things","_law_some","_law_again","_law_due","_law_thing_here","_law_at","_law_e","_law_k"]) (sc:=defScope JS) (by decide +kernel)) (fun _ _ _ _ _=>(Zbj 10 Mu.nd)) (fun _ _ _ _ _=>Zbk) (fun _ _ _ _ _=>(Jl qh4 hG (hr.mono (by decide)) T.Iu T.RW.kp T.Mp takes0 (Zd (Ze 1) Zg) (YC Jt))) (sw_true rfl rfl rfl (by decide +kernel)))
   (Zw (Z0 4 Mu.nd (Jl qg2 hG (hr.mono (by decide)) T.DR T.Rg.kp T.TV (takes_of rfl rfl rfl rfl) (Zd (Zt (Zu (u65 hr)) (Ze 3) Zj) (Zd (Zt (Zu (u65 hr)) (Ze 3) Zj) (Zd (Zt (Zu (u65 hr)) (Ze 3) Zj) Zg))) (YC (YC (YC Jt)))))
   (Zw (Wd (passes_of rfl) (Ky (Ku (by rfl) T.qch (Zd Zj Zg))) (VH 5 Mu.nd) (Zw (Z0 6 Mu.nd (ZC .z (Zd (Zx (Zel .z) (ZC .z (Zd (Zt (Zu (u65 hr)) (Ze 3) Zj) Zg)) Zj) (Zd (Zx (Zel .z) (ZC .z (Zd (Zt (Zu (u65 hr)) (Ze 3) Zj) Zg)) Zj) (Zd (ZC .z (Zd (Zt (Zu (u65 hr)) (Ze 3) Zj) Zg)) Zg)))))
   (Zw (YM (Kw (VJ (Jl qh3 hG (hr.mono (by decide)) T.Ir T.RQ.kp T.Ml (takes_of rfl rfl rfl rfl) (Zd (Jl qg3 hG (hr.mono (by decide)) T.DY T.Rh.kp T.TX (takes_of rfl rfl rfl rfl) (Zd (Ze 4) Zg) (YC Jt)) (Zd (Ze 6) Zg)) (YC (YC Jt))))) (Z6 (Yz J5)) YQ)
   (Z6 (Wd (passes_of rfl) (Zdp (Ze 3)) (VH 7 Mu.nd) (Zw (YM (VJ (Zy Zdc (by rfl) T.qM (by decide +kernel) (Zd (Ze 7) (Zd (Kg (by rfl) T.qvt (by decide +kernel)) Zg)))) (Z6 (ZfN (Zfy PySem.F.plainAttrs_list PySem.F.slot_list_append PySem.F.type_list_append ZhN (Ze 7) (Zd J9 Zg)))) YQ)
   (Z6 (YM (VJ (Zy Zdc (by rfl) T.qM (by decide +kernel) (Zd (Ze 7) (Zd (Kg (by rfl) T.qvs (by decide +kernel)) Zg)))) (Z6 (Kv Zj (Ks (ZaQ (u65 hr)) (Ze 7) J9))) YQ))))))))
   (Zw (Wd (passes_of rfl) (ZfP (by rfl) T.qcg (Zd (Ze 4) Zg)) (ZfG (Zdk (VH 8 Mu.nd) (Zdk (VH 9 Mu.nd) ZfH))) (Zw (YM (Vc (Zio (u64 hr)) (Jl Ea hG (hr.mono (by decide)) T.M8 T.Xf.kp T.Ri (takes_of rfl rfl rfl rfl) (Zd (Ze 9) Zg) (YC Jt)) (ZfB .z [("_law_k",10)] Mu.nd (Ky (Ku (by rfl) T.qch (Zd Zj Zg))) (Za9 (N:=["_law_script","_law_bag_here","_law_turn","_law_things","_law_some","_law_again","_law_due","_law_thing_here","_law_at","_law_e","_law_k"]) (sc:=defScope JS) (by decide +kernel)) (fun _ _ _ _ _=>(Zbj 10 Mu.nd)) (fun _ _ _ _ _=>Zbk) (fun _ _ _ _ _=>(Zbf (ZaI (u64 hr)) (Ze 10) (Ze 8))))) (Z6 (Yz J5)) YQ)
   (Z6 (YM (DW.dt (Zdn (Kw (VJ (Zy (ZJ T.qZ T.Iw) (by rfl) T.qM (by decide +kernel) (Zd (Ze 9) (Zd (ZK T.qZ) Zg))))) (Zdo (Kw (VJ (Zy (Zdb T.iv_) (by rfl) T.qM (by decide +kernel) (Zd (Ze 9) (Zd (Kg (by rfl) T.HF (by decide +kernel)) Zg)))))))) (Z6 (Yz J5)) YQ))))
   (Z6 (Wd (passes_of rfl) (Zdp (ZC .z (Zd (Zdi T.Mq T.qZ (Zd (Zt (Zu (u65 hr)) (Ze 3) Zj) Zg)) (Zd (ZfC T.Mq T.qZ) (Zd (Zdi T.Mq T.qZ (Zd J9 (Zd Zj Zg))) Zg))))) (VH 9 Mu.nd) (Z6 (YM (DW.dt (Zdn (Vc (Zif (u65 hr)) J5 (Jl Ea hG (hr.mono (by decide)) T.M8 T.Xf.kp T.Ri (takes_of rfl rfl rfl rfl) (Zd (Ze 9) Zg) (YC Jt))) (Zdo (Kw (VJ (Zy (Zdb T.iv_) (by rfl) T.qM (by decide +kernel) (Zd (Ze 9) (Zd (Kg (by rfl) T.HF (by decide +kernel)) Zg)))))))) (Z6 (Yz J5)) YQ)))))))))
   (Z6 (Yz J5))))
end
theorem all_mk {l:PySem.W.OpenLaw} {w:World} {K:PySem.W.Frag} {h:Heap} {mg:Str→Option Value} {fa:Addr} (X:K.In h) (G:h.Ns mainGlobals mg) (hfa:mg "law"=some (.ref fa))
  {GD:Addr} {ql5 qlT:Option Addr} {qmb:Array (Option Value)} {ql4 ql3 ql0 qma qbF qlZ:Value}
  {NT:Addr} {qj0 qin:Option Addr} {qke:Array (Option Value)} {qjZ qi6 qiI qj5 Ij qiH:Value}
  {Mr:Addr} {qht qg5:Option Addr} {qhF:Array (Option Value)} {qhr qhp qha qhD Dj qg8:Value}
  {Ms:Addr} {qhu qg6:Option Addr} {qhG:Array (Option Value)} {qhs qhq qhb qhE Dk qg9:Value}
  {TY:Addr} {qdZ qdO:Option Addr} {qeb:Array (Option Value)} {qdX qdU qdS qd9 Ec qdQ:Value}
  {Tg:Addr} {qcm qbx:Option Addr} {qcu:Array (Option Value)} {qcl qb0 qbP qcr Ho qbO:Value}
  {T5:Addr} {qd0 qdP:Option Addr} {qec:Array (Option Value)} {qdY qdV qdT qea Ed qdR:Value}
  {qvE:Addr} {qwt qwb:Option Addr} {qwz:Array (Option Value)} {qws qwp qwd qwy qvr qwc:Value}
  {qj:Addr}
  {Qw:Addr}
  {qY:Addr}
  {qd:Addr}
  {qD:Addr}
  {qT:Addr}
  {qJ:Addr}
  {qw:Addr}
  {qP:Addr}
  {qG:Addr}
  {qC:Addr}
  {qp:Addr}
  {qF:Addr}
  {Qx:Addr}
  {qQ:Addr}
  {Qu:Addr}
  {qR:Addr}
  {Qi:Addr}
  {qL:Addr}
  {qu:Addr}
  {Qg:Addr}
  {Qv:Addr}
  {qI:Addr}
  {QT:Addr}
  {Qy:Addr}
  {qK:Addr}
  {qH:Addr}
  {Qh:Addr}
  {ql:Addr}
  {qah qct:Str} {qbj:Addr} {Ii qO:List Value} {qaj:List Str} {Cg:List Value} {Ig:Bool} {Dq:Option Bool} {Ip:Option Addr} {IK IW qab qad qaf:Option Value}
  {qoI qsu:Str} {qrN:Addr} {qn2 Q5:List Value} {qoW:List Str} {qks:List Value} {qnX:Bool} {qiG:Option Bool} {qn8:Option Addr} {qoj qoo qot qoy qoD:Option Value}
  {qjQ qoJ:Str} {qnH:Addr} {qit Qz:List Value} {qkf:List Str} {qfU:List Value} {qie:Bool} {qex:Option Bool} {qiJ:Option Addr} {qi7 qjg qjp qjy qjH:Option Value}
  {HJ Ef:Str} {Eb:Addr} {Hl qm:List Value} {HS:List Str} {Py:List Value} {Hj:Bool} {Px:Option Bool} {Hq:Option Addr} {Hu Hv Hw Hz HD:Option Value}
  {qfC qj7:Str} {qh6:Addr} {qeq Qm:List Value} {qfN:List Str} {qcz:List Value} {qei:Bool} {qbH:Option Bool} {qeH:Option Addr} {qeY qe6 qfe qfm qfu:Option Value}
  {qjX qoQ:Str} {qnO:Addr} {qiA QM:List Value} {qkm:List Str} {qf1:List Value} {qil:Bool} {qeE:Option Bool} {qiQ:Option Addr} {qje qjn qjw qjF qjO:Option Value}
  {qfI qkd:Str} {qic:Addr} {qew Qt:List Value} {qfT:List Str} {qcF:List Value} {qeo:Bool} {qbN:Option Bool} {qeN:Option Addr} {qe4 qfc qfk qfs qfA:Option Value}
  {qck qfL:Str} {qeg:Addr} {qbE Qe:List Value} {qcx:List Str} {qam:List Value} {qbw:Bool} {Im:Option Bool} {qbS:Option Addr} {qb3 qb6 qb9 qcc qcf:Option Value}
  {qjR qoK:Str} {qnI:Addr} {qiu QC:List Value} {qkg:List Str} {qfV:List Value} {qif:Bool} {qey:Option Bool} {qiK:Option Addr} {qi8 qjh qjq qjz qjI:Option Value}
  {qfE qj9:Str} {qh8:Addr} {qes Qo:List Value} {qfP:List Str} {qcB:List Value} {qek:Bool} {qbJ:Option Bool} {qeJ:Option Addr} {qe0 qe8 qfg qfo qfw:Option Value}
  {qfB qj6:Str} {qh5:Addr} {qep Ql:List Value} {qfM:List Str} {qcy:List Value} {qeh:Bool} {qbG:Option Bool} {qeG:Option Addr} {qeX qe5 qfd qfl qft:Option Value}
  {qci qfJ:Str} {qee:Addr} {qbC Qa:List Value} {qcv:List Str} {qak:List Value} {qbt:Bool} {Ik:Option Bool} {qbQ:Option Addr} {qb1 qb4 qb7 qca qcd:Option Value}
  {qfD qj8:Str} {qh7:Addr} {qer Qn:List Value} {qfO:List Str} {qcA:List Value} {qej:Bool} {qbI:Option Bool} {qeI:Option Addr} {qeZ qe7 qff qfn qfv:Option Value}
  {qoF qsr:Str} {qrK:Addr} {qnZ QW:List Value} {qoT:List Str} {qkp:List Value} {qnU:Bool} {qiD:Option Bool} {qn5:Option Addr} {qog qol qoq qov qoA:Option Value}
  {qjS qoL:Str} {qnJ:Addr} {qiv QD:List Value} {qkh:List Str} {qfW:List Value} {qig:Bool} {qez:Option Bool} {qiL:Option Addr} {qi9 qji qjr qjA qjJ:Option Value}
  {qoE qsq:Str} {qrJ:Addr} {qnY QV:List Value} {qoS:List Str} {qko:List Value} {qnT:Bool} {qiC:Option Bool} {qn4:Option Addr} {qof qok qop qou qoz:Option Value}
  {qjU qoN:Str} {qnL:Addr} {qix QJ:List Value} {qkj:List Str} {qfY:List Value} {qii:Bool} {qeB:Option Bool} {qiN:Option Addr} {qjb qjk qjt qjC qjL:Option Value}
  {qjY qoR:Str} {qnP:Addr} {qiB QS:List Value} {qkn:List Str} {qf2:List Value} {qim:Bool} {qeF:Option Bool} {qiR:Option Addr} {qjf qjo qjx qjG qjP:Option Value}
  {qjW qoP:Str} {qnN:Addr} {qiz QL:List Value} {qkl:List Str} {qf0:List Value} {qik:Bool} {qeD:Option Bool} {qiP:Option Addr} {qjd qjm qjv qjE qjN:Option Value}
  {qcj qfK:Str} {qef:Addr} {qbD Qc:List Value} {qcw:List Str} {qal:List Value} {qbu:Bool} {Il:Option Bool} {qbR:Option Addr} {qb2 qb5 qb8 qcb qce:Option Value}
  {qjT qoM:Str} {qnK:Addr} {qiw QG:List Value} {qki:List Str} {qfX:List Value} {qih:Bool} {qeA:Option Bool} {qiM:Option Addr} {qja qjj qjs qjB qjK:Option Value}
  {qoG qss:Str} {qrL:Addr} {qn0 QX:List Value} {qoU:List Str} {qkq:List Value} {qnV:Bool} {qiE:Option Bool} {qn6:Option Addr} {qoh qom qor qow qoB:Option Value}
  {qfH qkc:Str} {qib:Addr} {qev Qs:List Value} {qfS:List Str} {qcE:List Value} {qen:Bool} {qbM:Option Bool} {qeM:Option Addr} {qe3 qfb qfj qfr qfz:Option Value}
  {qsp qvv:Str} {qvp:Addr} {qr3 Q7:List Value} {qsv:List Str} {qoX:List Value} {qrR:Bool} {qn3:Option Bool} {qr4:Option Addr} {qsj qsk qsl qsm qsn:Option Value}
  {qoH qst:Str} {qrM:Addr} {qn1 QZ:List Value} {qoV:List Str} {qkr:List Value} {qnW:Bool} {qiF:Option Bool} {qn7:Option Addr} {qoi qon qos qox qoC:Option Value}
  {qfG qkb:Str} {qia:Addr} {qeu Qq:List Value} {qfR:List Str} {qcD:List Value} {qem:Bool} {qbL:Option Bool} {qeL:Option Addr} {qe2 qfa qfi qfq qfy:Option Value}
  {qfF qka:Str} {qh9:Addr} {qet Qp:List Value} {qfQ:List Str} {qcC:List Value} {qel:Bool} {qbK:Option Bool} {qeK:Option Addr} {qe1 qe9 qfh qfp qfx:Option Value}
  {qjV qoO:Str} {qnM:Addr} {qiy QK:List Value} {qkk:List Str} {qfZ:List Value} {qij:Bool} {qeC:Option Bool} {qiO:Option Addr} {qjc qjl qju qjD qjM:Option Value}
  {qag qcs:Str} {qbi:Addr} {Ih qN:List Value} {qai:List Str} {Ce:List Value} {Ie:Bool} {Dm:Option Bool} {Io:Option Addr} {Iz IV qaa qac qae:Option Value}
  {Xu:Addr} {qqs qpt:Option Addr} {qq9:Array (Option Value)} {qrq qp2 qmw qq1 qcI qmn:Value}
  {Rq:Addr} {qte qsw:Option Addr} {qtM:Array (Option Value)} {qt0 qsU qpT qtC qf3 qpK:Value}
  {Xv:Addr} {qqt qpu:Option Addr} {qra:Array (Option Value)} {qrr qp3 qmx qq2 qcJ qmo:Value}
  {Xw:Addr} {qqu qpv:Option Addr} {qrb:Array (Option Value)} {qrs qp4 qmy qq3 qcK qmp:Value}
  {Q8:Addr} {qdw qcH:Option Addr} {qdB:Array (Option Value)} {qdK qds qaI qdx PB qaH:Value}
  {Rr:Addr} {qtf qsx:Option Addr} {qtN:Array (Option Value)} {qt1 qsV qpU qtD qf4 qpL:Value}
  {Xh:Addr} {qmX qmc:Option Addr} {qns:Array (Option Value)} {qnD qmE qkG qnp qan qkD:Value}
  {Nb:Addr} {qv3 qv1:Option Addr} {qv5:Array (Option Value)} {qv6 qv2 quT qv4 qoY quS:Value}
  {Ru:Addr} {qtg qsy:Option Addr} {qtO:Array (Option Value)} {qt2 qsW qpV qtE qf5 qpM:Value}
  {Tn:Addr} {qu1 quM:Option Addr} {qve:Array (Option Value)} {qvk quU qsP qu9 qkv qsK:Value}
  {Xx:Addr} {qqv qpw:Option Addr} {qrc:Array (Option Value)} {qrt qp5 qmz qq4 qcL qmq:Value}
  {Xc:Addr} {qle qku:Option Addr} {qlz:Array (Option Value)} {qlI qkY qhQ qlo CN qhK:Value}
  {Xy:Addr} {qqw qpx:Option Addr} {qrd:Array (Option Value)} {qru qp6 qmA qq5 qcM qmr:Value}
  {Rv:Addr} {qth qsz:Option Addr} {qtP:Array (Option Value)} {qt3 qsX qpW qtF qf6 qpN:Value}
  {Xi:Addr} {qmY qmd:Option Addr} {qnt:Array (Option Value)} {qnE qmF qkH qnq qao qkE:Value}
  {Rw:Addr} {qti qsA:Option Addr} {qtQ:Array (Option Value)} {qt4 qsY qpX qtG qf7 qpO:Value}
  {Rx:Addr} {qtj qsB:Option Addr} {qtR:Array (Option Value)} {qt5 qsZ qpY qtH qf8 qpP:Value}
  {Tp:Addr} {qu2 quN:Option Addr} {qvf:Array (Option Value)} {qvl quV qsQ qva qkw qsL:Value}
  {Xj:Addr} {qmZ qme:Option Addr} {qnu:Array (Option Value)} {qnF qmG qkI qnr qap qkF:Value}
  {Xz:Addr} {qqx qpy:Option Addr} {qre:Array (Option Value)} {qrv qp7 qmB qq6 qcN qms:Value}
  {Ry:Addr} {qtk qsC:Option Addr} {qtS:Array (Option Value)} {qt6 qs0 qpZ qtI qf9 qpQ:Value}
  {Rz:Addr} {qtl qsD:Option Addr} {qtT:Array (Option Value)} {qt7 qs1 qp0 qtJ qga qpR:Value}
  {XC:Addr} {qqy qpz:Option Addr} {qrf:Array (Option Value)} {qrw qp8 qmC qq7 qcO qmt:Value}
  {Tq:Addr} {qu3 quO:Option Addr} {qvg:Array (Option Value)} {qvm quW qsR qvb qkx qsM:Value}
  {Tr:Addr} {qu4 quP:Option Addr} {qvh:Array (Option Value)} {qvn quX qsS qvc qky qsN:Value}
  {XD:Addr} {qqz qpA:Option Addr} {qrg:Array (Option Value)} {qrx qp9 qmD qq8 qcP qmu:Value}
  {RB:Addr} {qtm qsE:Option Addr} {qtU:Array (Option Value)} {qt8 qs2 qp1 qtK qgb qpS:Value}
  {Tt:Addr} {qu5 quQ:Option Addr} {qvi:Array (Option Value)} {qvo quY qsT qvd qkz qsO:Value}
  (ql6:PySem.W.nsIn K mainGlobals "_law_bag"=some (some (.ref GD)))
  (ql7:K.lookup GD=some ⟨ql4,ql5,.func (PySem.W.fnOf "_law_bag" "_law_bag" (defArgs Vr) (defBody Vr) (defScope Vr) .none ql3 ql0 qma qlT qbF qlZ),qmb⟩)
  (ql8:PySem.W.codeIn K qbF "_law_bag"=true)
  (ql9:PySem.W.keepIn K (.ref GD)=true)
  (qj1:PySem.W.nsIn K mainGlobals "_law_take"=some (some (.ref NT)))
  (qj2:K.lookup NT=some ⟨qjZ,qj0,.func (PySem.W.fnOf "_law_take" "_law_take" (defArgs Ua) (defBody Ua) (defScope Ua) .none qi6 qiI qj5 qin Ij qiH),qke⟩)
  (qj3:PySem.W.codeIn K Ij "_law_take"=true)
  (qj4:PySem.W.keepIn K (.ref NT)=true)
  (qhv:PySem.W.nsIn K mainGlobals "_law_alike"=some (some (.ref Mr)))
  (qhx:K.lookup Mr=some ⟨qhr,qht,.func (PySem.W.fnOf "_law_alike" "_law_alike" (defArgs V6) (defBody V6) (defScope V6) .none qhp qha qhD qg5 Dj qg8),qhF⟩)
  (qhz:PySem.W.codeIn K Dj "_law_alike"=true)
  (qhB:PySem.W.keepIn K (.ref Mr)=true)
  (qhw:PySem.W.nsIn K mainGlobals "_law_thing"=some (some (.ref Ms)))
  (qhy:K.lookup Ms=some ⟨qhs,qhu,.func (PySem.W.fnOf "_law_thing" "_law_thing" (defArgs Ub) (defBody Ub) (defScope Ub) .none qhq qhb qhE qg6 Dk qg9),qhG⟩)
  (qhA:PySem.W.codeIn K Dk "_law_thing"=true)
  (qhC:PySem.W.keepIn K (.ref Ms)=true)
  (qd1:PySem.W.nsIn K mainGlobals "_law_errors"=some (some (.ref TY)))
  (qd3:K.lookup TY=some ⟨qdX,qdZ,.func (PySem.W.fnOf "_law_errors" "_law_errors" (defArgs V8) (defBody V8) (defScope V8) .none qdU qdS qd9 qdO Ec qdQ),qeb⟩)
  (qd5:PySem.W.codeIn K Ec "_law_errors"=true)
  (qd7:PySem.W.keepIn K (.ref TY)=true)
  (qcn:PySem.W.nsIn K mainGlobals "_law_classes"=some (some (.ref Tg)))
  (qco:K.lookup Tg=some ⟨qcl,qcm,.func (PySem.W.fnOf "_law_classes" "_law_classes" (defArgs V7) (defBody V7) (defScope V7) .none qb0 qbP qcr qbx Ho qbO),qcu⟩)
  (qcp:PySem.W.codeIn K Ho "_law_classes"=true)
  (qcq:PySem.W.keepIn K (.ref Tg)=true)
  (qd2:PySem.W.nsIn K mainGlobals "_law_fields"=some (some (.ref T5)))
  (qd4:K.lookup T5=some ⟨qdY,qd0,.func (PySem.W.fnOf "_law_fields" "_law_fields" (defArgs V9) (defBody V9) (defScope V9) .none qdV qdT qea qdP Ed qdR),qec⟩)
  (qd6:PySem.W.codeIn K Ed "_law_fields"=true)
  (qd8:PySem.W.keepIn K (.ref T5)=true)
  (qvu:PySem.W.nsIn K mainGlobals "law"=some (some (.ref qvE)))
  (qwv:K.lookup qvE=some ⟨qws,qwt,.func (PySem.W.fnOf "law" "law" (defArgs JS) (defBody JS) (defScope JS) .none qwp qwd qwy qwb qvr qwc),qwz⟩)
  (qww:PySem.W.codeIn K qvr "law"=true)
  (qwx:PySem.W.keepIn K (.ref qvE)=true)
  (qbq:PySem.W.nsIn K mainGlobals "PlanError"=some (some (.ref qj)))
  (qlS:PySem.W.nsIn K mainGlobals "Wrong"=some (some (.ref Qw)))
  (qg4:PySem.W.nsIn K mainGlobals "BadKey"=some (some (.ref qY)))
  (MP:PySem.W.nsIn K mainGlobals "BadReference"=some (some (.ref qd)))
  (qbl:PySem.W.nsIn K mainGlobals "BadMade"=some (some (.ref qD)))
  (qaS:PySem.W.nsIn K mainGlobals "Ringed"=some (some (.ref qT)))
  (qbs:PySem.W.nsIn K mainGlobals "Unknown"=some (some (.ref qJ)))
  (BP:PySem.W.nsIn K mainGlobals "NotFixed"=some (some (.ref qw)))
  (qaP:PySem.W.nsIn K mainGlobals "BadRow"=some (some (.ref qP)))
  (qbn:PySem.W.nsIn K mainGlobals "Missing"=some (some (.ref qG)))
  (qbk:PySem.W.nsIn K mainGlobals "BadItem"=some (some (.ref qC)))
  (BK:PySem.W.nsIn K mainGlobals "BadShown"=some (some (.ref qp)))
  (qbm:PySem.W.nsIn K mainGlobals "BadMark"=some (some (.ref qF)))
  (qrP:PySem.W.nsIn K mainGlobals "NoUse"=some (some (.ref Qx)))
  (qaQ:PySem.W.nsIn K mainGlobals "Hidden"=some (some (.ref qQ)))
  (qlQ:PySem.W.nsIn K mainGlobals "Loose"=some (some (.ref Qu)))
  (qaR:PySem.W.nsIn K mainGlobals "NoSite"=some (some (.ref qR)))
  (qnS:PySem.W.nsIn K mainGlobals "Unlike"=some (some (.ref Qi)))
  (Dg:PySem.W.nsIn K mainGlobals "Parted"=some (some (.ref qL)))
  (BL:PySem.W.nsIn K mainGlobals "NoNumber"=some (some (.ref qu)))
  (qnQ:PySem.W.nsIn K mainGlobals "NoMove"=some (some (.ref Qg)))
  (qlR:PySem.W.nsIn K mainGlobals "Twice"=some (some (.ref Qv)))
  (qbr:PySem.W.nsIn K mainGlobals "TooMany"=some (some (.ref qI)))
  (qrO:PySem.W.nsIn K mainGlobals "Full"=some (some (.ref QT)))
  (qrQ:PySem.W.nsIn K mainGlobals "Unfit"=some (some (.ref Qy)))
  (qid:PySem.W.nsIn K mainGlobals "Nothing"=some (some (.ref qK)))
  (qbp:PySem.W.nsIn K mainGlobals "NoEntry"=some (some (.ref qH)))
  (qnR:PySem.W.nsIn K mainGlobals "NoText"=some (some (.ref Qh)))
  (qbo:PySem.W.nsIn K mainGlobals "NoCommand"=some (some (.ref ql)))
  (Gx:K.lookup qj=some (excClassObj qah qct qj qbj Ii qO true qaj Cg Ig Dq Ip IK IW qab qad qaf "ValueError.__new__"))
  (qaB:PySem.HandSPX.refsVE qO=true)
  (qh1:PySem.W.findIn K (.ref qj) "__setattr__"=some (some (.builtin "object.__setattr__")))
  (Pg:PySem.W.subIn K (.ref qj) (.type "BaseException")=some true)
  (Pu:PySem.W.typeIn K (.ref qj)=some (.type "type"))
  (qhU:PySem.W.keepIn K (.ref qj)=true)
  (CQ:PySem.W.findIn K (.ref qj) "__getattribute__"=some (some (.builtin "BaseException.__getattribute__")))
  (CV:PySem.W.findIn K (.ref qj) "__getattr__"=some none)
  (CZ:PySem.W.hasDictIn K qj=true)
  (qhJ:PySem.W.findIn K (.ref qj) "__class__"=some (some (.builtin "object.__class__")))
  (qhW:PySem.W.mroIn K qj (.type "object")=some true)
  (qo6:K.lookup Qw=some (excClassObj qoI qsu Qw qrN qn2 Q5 true qoW qks qnX qiG qn8 qoj qoo qot qoy qoD "ValueError.__new__"))
  (qpb:PySem.HandSPX.refsVE Q5=true)
  (qtZ:PySem.W.findIn K (.ref Qw) "__setattr__"=some (some (.builtin "object.__setattr__")))
  (qc3:PySem.W.subIn K (.ref Qw) (.type "BaseException")=some true)
  (qlH:PySem.W.typeIn K (.ref Qw)=some (.type "type"))
  (qs7:PySem.W.keepIn K (.ref Qw)=true)
  (qkN:PySem.W.findIn K (.ref Qw) "__getattribute__"=some (some (.builtin "BaseException.__getattribute__")))
  (qkS:PySem.W.findIn K (.ref Qw) "__getattr__"=some none)
  (qkX:PySem.W.hasDictIn K Qw=true)
  (qsJ:PySem.W.findIn K (.ref Qw) "__class__"=some (some (.builtin "object.__class__")))
  (qtd:PySem.W.mroIn K Qw (.type "object")=some true)
  (qk2:K.lookup qY=some (excClassObj qjQ qoJ qY qnH qit Qz true qkf qfU qie qex qiJ qi7 qjg qjp qjy qjH "ValueError.__new__"))
  (qlp:PySem.HandSPX.refsVE Qz=true)
  (qrh:PySem.W.findIn K (.ref qY) "__setattr__"=some (some (.builtin "object.__setattr__")))
  (Aj:PySem.W.subIn K (.ref qY) (.type "BaseException")=some true)
  (qgT:PySem.W.typeIn K (.ref qY)=some (.type "type"))
  (qqa:PySem.W.keepIn K (.ref qY)=true)
  (qgc:PySem.W.findIn K (.ref qY) "__getattribute__"=some (some (.builtin "BaseException.__getattribute__")))
  (qgl:PySem.W.findIn K (.ref qY) "__getattr__"=some none)
  (qgu:PySem.W.hasDictIn K qY=true)
  (qpB:PySem.W.findIn K (.ref qY) "__class__"=some (some (.builtin "object.__class__")))
  (qqj:PySem.W.mroIn K qY (.type "object")=some true)
  (Gv:K.lookup qd=some (excClassObj HJ Ef qd Eb Hl qm true HS Py Hj Px Hq Hu Hv Hw Hz HD "ValueError.__new__"))
  (Gy:PySem.HandSPX.refsVE qm=true)
  (qaO:PySem.W.findIn K (.ref qd) "__setattr__"=some (some (.builtin "object.__setattr__")))
  (TF:PySem.W.subIn K (.ref qd) (.type "BaseException")=some true)
  (Hg:PySem.W.typeIn K (.ref qd)=some (.type "type"))
  (qaJ:PySem.W.keepIn K (.ref qd)=true)
  (PN:PySem.W.findIn K (.ref qd) "__getattribute__"=some (some (.builtin "BaseException.__getattribute__")))
  (P0:PySem.W.findIn K (.ref qd) "__getattr__"=some none)
  (Hf:PySem.W.hasDictIn K qd=true)
  (qaG:PySem.W.findIn K (.ref qd) "__class__"=some (some (.builtin "object.__class__")))
  (qaK:PySem.W.mroIn K qd (.type "object")=some true)
  (qgE:K.lookup qD=some (excClassObj qfC qj7 qD qh6 qeq Qm true qfN qcz qei qbH qeH qeY qe6 qfe qfm qfu "ValueError.__new__"))
  (qgM:PySem.HandSPX.refsVE Qm=true)
  (qnw:PySem.W.findIn K (.ref qD) "__setattr__"=some (some (.builtin "object.__setattr__")))
  (Eu:PySem.W.subIn K (.ref qD) (.type "BaseException")=some true)
  (qdD:PySem.W.typeIn K (.ref qD)=some (.type "type"))
  (qmI:PySem.W.keepIn K (.ref qD)=true)
  (qc5:PySem.W.findIn K (.ref qD) "__getattribute__"=some (some (.builtin "BaseException.__getattribute__")))
  (qdd:PySem.W.findIn K (.ref qD) "__getattr__"=some none)
  (qdl:PySem.W.hasDictIn K qD=true)
  (qmg:PySem.W.findIn K (.ref qD) "__class__"=some (some (.builtin "object.__class__")))
  (qmQ:PySem.W.mroIn K qD (.type "object")=some true)
  (qk9:K.lookup qT=some (excClassObj qjX qoQ qT qnO qiA QM true qkm qf1 qil qeE qiQ qje qjn qjw qjF qjO "ValueError.__new__"))
  (qlx:PySem.HandSPX.refsVE QM=true)
  (qro:PySem.W.findIn K (.ref qT) "__setattr__"=some (some (.builtin "object.__setattr__")))
  (Ax:PySem.W.subIn K (.ref qT) (.type "BaseException")=some true)
  (qg0:PySem.W.typeIn K (.ref qT)=some (.type "type"))
  (qqh:PySem.W.keepIn K (.ref qT)=true)
  (qgj:PySem.W.findIn K (.ref qT) "__getattribute__"=some (some (.builtin "BaseException.__getattribute__")))
  (qgs:PySem.W.findIn K (.ref qT) "__getattr__"=some none)
  (qgB:PySem.W.hasDictIn K qT=true)
  (qpI:PySem.W.findIn K (.ref qT) "__class__"=some (some (.builtin "object.__class__")))
  (qqq:PySem.W.mroIn K qT (.type "object")=some true)
  (qgK:K.lookup qJ=some (excClassObj qfI qkd qJ qic qew Qt true qfT qcF qeo qbN qeN qe4 qfc qfk qfs qfA "ValueError.__new__"))
  (qgS:PySem.HandSPX.refsVE Qt=true)
  (qnC:PySem.W.findIn K (.ref qJ) "__setattr__"=some (some (.builtin "object.__setattr__")))
  (Dd:PySem.W.subIn K (.ref qJ) (.type "BaseException")=some true)
  (qdJ:PySem.W.typeIn K (.ref qJ)=some (.type "type"))
  (qmO:PySem.W.keepIn K (.ref qJ)=true)
  (qdb:PySem.W.findIn K (.ref qJ) "__getattribute__"=some (some (.builtin "BaseException.__getattribute__")))
  (qdj:PySem.W.findIn K (.ref qJ) "__getattr__"=some none)
  (qdr:PySem.W.hasDictIn K qJ=true)
  (qmm:PySem.W.findIn K (.ref qJ) "__class__"=some (some (.builtin "object.__class__")))
  (qmW:PySem.W.mroIn K qJ (.type "object")=some true)
  (qdv:K.lookup qw=some (excClassObj qck qfL qw qeg qbE Qe true qcx qam qbw Im qbS qb3 qb6 qb9 qcc qcf "ValueError.__new__"))
  (qdA:PySem.HandSPX.refsVE Qe=true)
  (qlC:PySem.W.findIn K (.ref qw) "__setattr__"=some (some (.builtin "object.__setattr__")))
  (Gu:PySem.W.subIn K (.ref qw) (.type "BaseException")=some true)
  (qaE:PySem.W.typeIn K (.ref qw)=some (.type "type"))
  (qk1:PySem.W.keepIn K (.ref qw)=true)
  (qas:PySem.W.findIn K (.ref qw) "__getattribute__"=some (some (.builtin "BaseException.__getattribute__")))
  (qav:PySem.W.findIn K (.ref qw) "__getattr__"=some none)
  (qay:PySem.W.hasDictIn K qw=true)
  (qkC:PySem.W.findIn K (.ref qw) "__class__"=some (some (.builtin "object.__class__")))
  (qld:PySem.W.mroIn K qw (.type "object")=some true)
  (qk3:K.lookup qP=some (excClassObj qjR qoK qP qnI qiu QC true qkg qfV qif qey qiK qi8 qjh qjq qjz qjI "ValueError.__new__"))
  (qlq:PySem.HandSPX.refsVE QC=true)
  (qri:PySem.W.findIn K (.ref qP) "__setattr__"=some (some (.builtin "object.__setattr__")))
  (Ak:PySem.W.subIn K (.ref qP) (.type "BaseException")=some true)
  (qgU:PySem.W.typeIn K (.ref qP)=some (.type "type"))
  (qqb:PySem.W.keepIn K (.ref qP)=true)
  (qgd:PySem.W.findIn K (.ref qP) "__getattribute__"=some (some (.builtin "BaseException.__getattribute__")))
  (qgm:PySem.W.findIn K (.ref qP) "__getattr__"=some none)
  (qgv:PySem.W.hasDictIn K qP=true)
  (qpC:PySem.W.findIn K (.ref qP) "__class__"=some (some (.builtin "object.__class__")))
  (qqk:PySem.W.mroIn K qP (.type "object")=some true)
  (qgG:K.lookup qG=some (excClassObj qfE qj9 qG qh8 qes Qo true qfP qcB qek qbJ qeJ qe0 qe8 qfg qfo qfw "ValueError.__new__"))
  (qgO:PySem.HandSPX.refsVE Qo=true)
  (qny:PySem.W.findIn K (.ref qG) "__setattr__"=some (some (.builtin "object.__setattr__")))
  (Ey:PySem.W.subIn K (.ref qG) (.type "BaseException")=some true)
  (qdF:PySem.W.typeIn K (.ref qG)=some (.type "type"))
  (qmK:PySem.W.keepIn K (.ref qG)=true)
  (qc7:PySem.W.findIn K (.ref qG) "__getattribute__"=some (some (.builtin "BaseException.__getattribute__")))
  (qdf:PySem.W.findIn K (.ref qG) "__getattr__"=some none)
  (qdn:PySem.W.hasDictIn K qG=true)
  (qmi:PySem.W.findIn K (.ref qG) "__class__"=some (some (.builtin "object.__class__")))
  (qmS:PySem.W.mroIn K qG (.type "object")=some true)
  (qgD:K.lookup qC=some (excClassObj qfB qj6 qC qh5 qep Ql true qfM qcy qeh qbG qeG qeX qe5 qfd qfl qft "ValueError.__new__"))
  (qgL:PySem.HandSPX.refsVE Ql=true)
  (qnv:PySem.W.findIn K (.ref qC) "__setattr__"=some (some (.builtin "object.__setattr__")))
  (Et:PySem.W.subIn K (.ref qC) (.type "BaseException")=some true)
  (qdC:PySem.W.typeIn K (.ref qC)=some (.type "type"))
  (qmH:PySem.W.keepIn K (.ref qC)=true)
  (qc4:PySem.W.findIn K (.ref qC) "__getattribute__"=some (some (.builtin "BaseException.__getattribute__")))
  (qdc:PySem.W.findIn K (.ref qC) "__getattr__"=some none)
  (qdk:PySem.W.hasDictIn K qC=true)
  (qmf:PySem.W.findIn K (.ref qC) "__class__"=some (some (.builtin "object.__class__")))
  (qmP:PySem.W.mroIn K qC (.type "object")=some true)
  (qdt:K.lookup qp=some (excClassObj qci qfJ qp qee qbC Qa true qcv qak qbt Ik qbQ qb1 qb4 qb7 qca qcd "ValueError.__new__"))
  (qdy:PySem.HandSPX.refsVE Qa=true)
  (qlA:PySem.W.findIn K (.ref qp) "__setattr__"=some (some (.builtin "object.__setattr__")))
  (Gp:PySem.W.subIn K (.ref qp) (.type "BaseException")=some true)
  (qaC:PySem.W.typeIn K (.ref qp)=some (.type "type"))
  (qkZ:PySem.W.keepIn K (.ref qp)=true)
  (qaq:PySem.W.findIn K (.ref qp) "__getattribute__"=some (some (.builtin "BaseException.__getattribute__")))
  (qat:PySem.W.findIn K (.ref qp) "__getattr__"=some none)
  (qaw:PySem.W.hasDictIn K qp=true)
  (qkA:PySem.W.findIn K (.ref qp) "__class__"=some (some (.builtin "object.__class__")))
  (qlb:PySem.W.mroIn K qp (.type "object")=some true)
  (qgF:K.lookup qF=some (excClassObj qfD qj8 qF qh7 qer Qn true qfO qcA qej qbI qeI qeZ qe7 qff qfn qfv "ValueError.__new__"))
  (qgN:PySem.HandSPX.refsVE Qn=true)
  (qnx:PySem.W.findIn K (.ref qF) "__setattr__"=some (some (.builtin "object.__setattr__")))
  (Ew:PySem.W.subIn K (.ref qF) (.type "BaseException")=some true)
  (qdE:PySem.W.typeIn K (.ref qF)=some (.type "type"))
  (qmJ:PySem.W.keepIn K (.ref qF)=true)
  (qc6:PySem.W.findIn K (.ref qF) "__getattribute__"=some (some (.builtin "BaseException.__getattribute__")))
  (qde:PySem.W.findIn K (.ref qF) "__getattr__"=some none)
  (qdm:PySem.W.hasDictIn K qF=true)
  (qmh:PySem.W.findIn K (.ref qF) "__class__"=some (some (.builtin "object.__class__")))
  (qmR:PySem.W.mroIn K qF (.type "object")=some true)
  (qo3:K.lookup Qx=some (excClassObj qoF qsr Qx qrK qnZ QW true qoT qkp qnU qiD qn5 qog qol qoq qov qoA "ValueError.__new__"))
  (qo8:PySem.HandSPX.refsVE QW=true)
  (qtW:PySem.W.findIn K (.ref Qx) "__setattr__"=some (some (.builtin "object.__setattr__")))
  (qc0:PySem.W.subIn K (.ref Qx) (.type "BaseException")=some true)
  (qlE:PySem.W.typeIn K (.ref Qx)=some (.type "type"))
  (qs4:PySem.W.keepIn K (.ref Qx)=true)
  (qkK:PySem.W.findIn K (.ref Qx) "__getattribute__"=some (some (.builtin "BaseException.__getattribute__")))
  (qkP:PySem.W.findIn K (.ref Qx) "__getattr__"=some none)
  (qkU:PySem.W.hasDictIn K Qx=true)
  (qsG:PySem.W.findIn K (.ref Qx) "__class__"=some (some (.builtin "object.__class__")))
  (qta:PySem.W.mroIn K Qx (.type "object")=some true)
  (qk4:K.lookup qQ=some (excClassObj qjS qoL qQ qnJ qiv QD true qkh qfW qig qez qiL qi9 qji qjr qjA qjJ "ValueError.__new__"))
  (qlr:PySem.HandSPX.refsVE QD=true)
  (qrj:PySem.W.findIn K (.ref qQ) "__setattr__"=some (some (.builtin "object.__setattr__")))
  (Am:PySem.W.subIn K (.ref qQ) (.type "BaseException")=some true)
  (qgV:PySem.W.typeIn K (.ref qQ)=some (.type "type"))
  (qqc:PySem.W.keepIn K (.ref qQ)=true)
  (qge:PySem.W.findIn K (.ref qQ) "__getattribute__"=some (some (.builtin "BaseException.__getattribute__")))
  (qgn:PySem.W.findIn K (.ref qQ) "__getattr__"=some none)
  (qgw:PySem.W.hasDictIn K qQ=true)
  (qpD:PySem.W.findIn K (.ref qQ) "__class__"=some (some (.builtin "object.__class__")))
  (qql:PySem.W.mroIn K qQ (.type "object")=some true)
  (qo2:K.lookup Qu=some (excClassObj qoE qsq Qu qrJ qnY QV true qoS qko qnT qiC qn4 qof qok qop qou qoz "ValueError.__new__"))
  (qo7:PySem.HandSPX.refsVE QV=true)
  (qtV:PySem.W.findIn K (.ref Qu) "__setattr__"=some (some (.builtin "object.__setattr__")))
  (qcZ:PySem.W.subIn K (.ref Qu) (.type "BaseException")=some true)
  (qlD:PySem.W.typeIn K (.ref Qu)=some (.type "type"))
  (qs3:PySem.W.keepIn K (.ref Qu)=true)
  (qkJ:PySem.W.findIn K (.ref Qu) "__getattribute__"=some (some (.builtin "BaseException.__getattribute__")))
  (qkO:PySem.W.findIn K (.ref Qu) "__getattr__"=some none)
  (qkT:PySem.W.hasDictIn K Qu=true)
  (qsF:PySem.W.findIn K (.ref Qu) "__class__"=some (some (.builtin "object.__class__")))
  (qs9:PySem.W.mroIn K Qu (.type "object")=some true)
  (qk6:K.lookup qR=some (excClassObj qjU qoN qR qnL qix QJ true qkj qfY qii qeB qiN qjb qjk qjt qjC qjL "ValueError.__new__"))
  (qlu:PySem.HandSPX.refsVE QJ=true)
  (qrl:PySem.W.findIn K (.ref qR) "__setattr__"=some (some (.builtin "object.__setattr__")))
  (Aq:PySem.W.subIn K (.ref qR) (.type "BaseException")=some true)
  (qgX:PySem.W.typeIn K (.ref qR)=some (.type "type"))
  (qqe:PySem.W.keepIn K (.ref qR)=true)
  (qgg:PySem.W.findIn K (.ref qR) "__getattribute__"=some (some (.builtin "BaseException.__getattribute__")))
  (qgp:PySem.W.findIn K (.ref qR) "__getattr__"=some none)
  (qgy:PySem.W.hasDictIn K qR=true)
  (qpF:PySem.W.findIn K (.ref qR) "__class__"=some (some (.builtin "object.__class__")))
  (qqn:PySem.W.mroIn K qR (.type "object")=some true)
  (qla:K.lookup Qi=some (excClassObj qjY qoR Qi qnP qiB QS true qkn qf2 qim qeF qiR qjf qjo qjx qjG qjP "ValueError.__new__"))
  (qly:PySem.HandSPX.refsVE QS=true)
  (qrp:PySem.W.findIn K (.ref Qi) "__setattr__"=some (some (.builtin "object.__setattr__")))
  (Ay:PySem.W.subIn K (.ref Qi) (.type "BaseException")=some true)
  (qg1:PySem.W.typeIn K (.ref Qi)=some (.type "type"))
  (qqi:PySem.W.keepIn K (.ref Qi)=true)
  (qgk:PySem.W.findIn K (.ref Qi) "__getattribute__"=some (some (.builtin "BaseException.__getattribute__")))
  (qgt:PySem.W.findIn K (.ref Qi) "__getattr__"=some none)
  (qgC:PySem.W.hasDictIn K Qi=true)
  (qpJ:PySem.W.findIn K (.ref Qi) "__class__"=some (some (.builtin "object.__class__")))
  (qqr:PySem.W.mroIn K Qi (.type "object")=some true)
  (qk8:K.lookup qL=some (excClassObj qjW qoP qL qnN qiz QL true qkl qf0 qik qeD qiP qjd qjm qjv qjE qjN "ValueError.__new__"))
  (qlw:PySem.HandSPX.refsVE QL=true)
  (qrn:PySem.W.findIn K (.ref qL) "__setattr__"=some (some (.builtin "object.__setattr__")))
  (Av:PySem.W.subIn K (.ref qL) (.type "BaseException")=some true)
  (qgZ:PySem.W.typeIn K (.ref qL)=some (.type "type"))
  (qqg:PySem.W.keepIn K (.ref qL)=true)
  (qgi:PySem.W.findIn K (.ref qL) "__getattribute__"=some (some (.builtin "BaseException.__getattribute__")))
  (qgr:PySem.W.findIn K (.ref qL) "__getattr__"=some none)
  (qgA:PySem.W.hasDictIn K qL=true)
  (qpH:PySem.W.findIn K (.ref qL) "__class__"=some (some (.builtin "object.__class__")))
  (qqp:PySem.W.mroIn K qL (.type "object")=some true)
  (qdu:K.lookup qu=some (excClassObj qcj qfK qu qef qbD Qc true qcw qal qbu Il qbR qb2 qb5 qb8 qcb qce "ValueError.__new__"))
  (qdz:PySem.HandSPX.refsVE Qc=true)
  (qlB:PySem.W.findIn K (.ref qu) "__setattr__"=some (some (.builtin "object.__setattr__")))
  (Gq:PySem.W.subIn K (.ref qu) (.type "BaseException")=some true)
  (qaD:PySem.W.typeIn K (.ref qu)=some (.type "type"))
  (qk0:PySem.W.keepIn K (.ref qu)=true)
  (qar:PySem.W.findIn K (.ref qu) "__getattribute__"=some (some (.builtin "BaseException.__getattribute__")))
  (qau:PySem.W.findIn K (.ref qu) "__getattr__"=some none)
  (qax:PySem.W.hasDictIn K qu=true)
  (qkB:PySem.W.findIn K (.ref qu) "__class__"=some (some (.builtin "object.__class__")))
  (qlc:PySem.W.mroIn K qu (.type "object")=some true)
  (qk5:K.lookup Qg=some (excClassObj qjT qoM Qg qnK qiw QG true qki qfX qih qeA qiM qja qjj qjs qjB qjK "ValueError.__new__"))
  (qls:PySem.HandSPX.refsVE QG=true)
  (qrk:PySem.W.findIn K (.ref Qg) "__setattr__"=some (some (.builtin "object.__setattr__")))
  (Ao:PySem.W.subIn K (.ref Qg) (.type "BaseException")=some true)
  (qgW:PySem.W.typeIn K (.ref Qg)=some (.type "type"))
  (qqd:PySem.W.keepIn K (.ref Qg)=true)
  (qgf:PySem.W.findIn K (.ref Qg) "__getattribute__"=some (some (.builtin "BaseException.__getattribute__")))
  (qgo:PySem.W.findIn K (.ref Qg) "__getattr__"=some none)
  (qgx:PySem.W.hasDictIn K Qg=true)
  (qpE:PySem.W.findIn K (.ref Qg) "__class__"=some (some (.builtin "object.__class__")))
  (qqm:PySem.W.mroIn K Qg (.type "object")=some true)
  (qo4:K.lookup Qv=some (excClassObj qoG qss Qv qrL qn0 QX true qoU qkq qnV qiE qn6 qoh qom qor qow qoB "ValueError.__new__"))
  (qo9:PySem.HandSPX.refsVE QX=true)
  (qtX:PySem.W.findIn K (.ref Qv) "__setattr__"=some (some (.builtin "object.__setattr__")))
  (qc1:PySem.W.subIn K (.ref Qv) (.type "BaseException")=some true)
  (qlF:PySem.W.typeIn K (.ref Qv)=some (.type "type"))
  (qs5:PySem.W.keepIn K (.ref Qv)=true)
  (qkL:PySem.W.findIn K (.ref Qv) "__getattribute__"=some (some (.builtin "BaseException.__getattribute__")))
  (qkQ:PySem.W.findIn K (.ref Qv) "__getattr__"=some none)
  (qkV:PySem.W.hasDictIn K Qv=true)
  (qsH:PySem.W.findIn K (.ref Qv) "__class__"=some (some (.builtin "object.__class__")))
  (qtb:PySem.W.mroIn K Qv (.type "object")=some true)
  (qgJ:K.lookup qI=some (excClassObj qfH qkc qI qib qev Qs true qfS qcE qen qbM qeM qe3 qfb qfj qfr qfz "ValueError.__new__"))
  (qgR:PySem.HandSPX.refsVE Qs=true)
  (qnB:PySem.W.findIn K (.ref qI) "__setattr__"=some (some (.builtin "object.__setattr__")))
  (Dc:PySem.W.subIn K (.ref qI) (.type "BaseException")=some true)
  (qdI:PySem.W.typeIn K (.ref qI)=some (.type "type"))
  (qmN:PySem.W.keepIn K (.ref qI)=true)
  (qda:PySem.W.findIn K (.ref qI) "__getattribute__"=some (some (.builtin "BaseException.__getattribute__")))
  (qdi:PySem.W.findIn K (.ref qI) "__getattr__"=some none)
  (qdq:PySem.W.hasDictIn K qI=true)
  (qml:PySem.W.findIn K (.ref qI) "__class__"=some (some (.builtin "object.__class__")))
  (qmV:PySem.W.mroIn K qI (.type "object")=some true)
  (qs8:K.lookup QT=some (excClassObj qsp qvv QT qvp qr3 Q7 true qsv qoX qrR qn3 qr4 qsj qsk qsl qsm qsn "ValueError.__new__"))
  (qtL:PySem.HandSPX.refsVE Q7=true)
  (qvj:PySem.W.findIn K (.ref QT) "__setattr__"=some (some (.builtin "object.__setattr__")))
  (qhR:PySem.W.subIn K (.ref QT) (.type "BaseException")=some true)
  (qpc:PySem.W.typeIn K (.ref QT)=some (.type "type"))
  (quZ:PySem.W.keepIn K (.ref QT)=true)
  (qoZ:PySem.W.findIn K (.ref QT) "__getattribute__"=some (some (.builtin "BaseException.__getattribute__")))
  (qo0:PySem.W.findIn K (.ref QT) "__getattr__"=some none)
  (qo1:PySem.W.hasDictIn K QT=true)
  (quR:PySem.W.findIn K (.ref QT) "__class__"=some (some (.builtin "object.__class__")))
  (qu0:PySem.W.mroIn K QT (.type "object")=some true)
  (qo5:K.lookup Qy=some (excClassObj qoH qst Qy qrM qn1 QZ true qoV qkr qnW qiF qn7 qoi qon qos qox qoC "ValueError.__new__"))
  (qpa:PySem.HandSPX.refsVE QZ=true)
  (qtY:PySem.W.findIn K (.ref Qy) "__setattr__"=some (some (.builtin "object.__setattr__")))
  (qc2:PySem.W.subIn K (.ref Qy) (.type "BaseException")=some true)
  (qlG:PySem.W.typeIn K (.ref Qy)=some (.type "type"))
  (qs6:PySem.W.keepIn K (.ref Qy)=true)
  (qkM:PySem.W.findIn K (.ref Qy) "__getattribute__"=some (some (.builtin "BaseException.__getattribute__")))
  (qkR:PySem.W.findIn K (.ref Qy) "__getattr__"=some none)
  (qkW:PySem.W.hasDictIn K Qy=true)
  (qsI:PySem.W.findIn K (.ref Qy) "__class__"=some (some (.builtin "object.__class__")))
  (qtc:PySem.W.mroIn K Qy (.type "object")=some true)
  (qgI:K.lookup qK=some (excClassObj qfG qkb qK qia qeu Qq true qfR qcD qem qbL qeL qe2 qfa qfi qfq qfy "ValueError.__new__"))
  (qgQ:PySem.HandSPX.refsVE Qq=true)
  (qnA:PySem.W.findIn K (.ref qK) "__setattr__"=some (some (.builtin "object.__setattr__")))
  (EY:PySem.W.subIn K (.ref qK) (.type "BaseException")=some true)
  (qdH:PySem.W.typeIn K (.ref qK)=some (.type "type"))
  (qmM:PySem.W.keepIn K (.ref qK)=true)
  (qc9:PySem.W.findIn K (.ref qK) "__getattribute__"=some (some (.builtin "BaseException.__getattribute__")))
  (qdh:PySem.W.findIn K (.ref qK) "__getattr__"=some none)
  (qdp:PySem.W.hasDictIn K qK=true)
  (qmk:PySem.W.findIn K (.ref qK) "__class__"=some (some (.builtin "object.__class__")))
  (qmU:PySem.W.mroIn K qK (.type "object")=some true)
  (qgH:K.lookup qH=some (excClassObj qfF qka qH qh9 qet Qp true qfQ qcC qel qbK qeK qe1 qe9 qfh qfp qfx "ValueError.__new__"))
  (qgP:PySem.HandSPX.refsVE Qp=true)
  (qnz:PySem.W.findIn K (.ref qH) "__setattr__"=some (some (.builtin "object.__setattr__")))
  (Ez:PySem.W.subIn K (.ref qH) (.type "BaseException")=some true)
  (qdG:PySem.W.typeIn K (.ref qH)=some (.type "type"))
  (qmL:PySem.W.keepIn K (.ref qH)=true)
  (qc8:PySem.W.findIn K (.ref qH) "__getattribute__"=some (some (.builtin "BaseException.__getattribute__")))
  (qdg:PySem.W.findIn K (.ref qH) "__getattr__"=some none)
  (qdo:PySem.W.hasDictIn K qH=true)
  (qmj:PySem.W.findIn K (.ref qH) "__class__"=some (some (.builtin "object.__class__")))
  (qmT:PySem.W.mroIn K qH (.type "object")=some true)
  (qk7:K.lookup Qh=some (excClassObj qjV qoO Qh qnM qiy QK true qkk qfZ qij qeC qiO qjc qjl qju qjD qjM "ValueError.__new__"))
  (qlv:PySem.HandSPX.refsVE QK=true)
  (qrm:PySem.W.findIn K (.ref Qh) "__setattr__"=some (some (.builtin "object.__setattr__")))
  (Ar:PySem.W.subIn K (.ref Qh) (.type "BaseException")=some true)
  (qgY:PySem.W.typeIn K (.ref Qh)=some (.type "type"))
  (qqf:PySem.W.keepIn K (.ref Qh)=true)
  (qgh:PySem.W.findIn K (.ref Qh) "__getattribute__"=some (some (.builtin "BaseException.__getattribute__")))
  (qgq:PySem.W.findIn K (.ref Qh) "__getattr__"=some none)
  (qgz:PySem.W.hasDictIn K Qh=true)
  (qpG:PySem.W.findIn K (.ref Qh) "__class__"=some (some (.builtin "object.__class__")))
  (qqo:PySem.W.mroIn K Qh (.type "object")=some true)
  (qaz:K.lookup ql=some (excClassObj qag qcs ql qbi Ih qN true qai Ce Ie Dm Io Iz IV qaa qac qae "ValueError.__new__"))
  (qaA:PySem.HandSPX.refsVE qN=true)
  (qh0:PySem.W.findIn K (.ref ql) "__setattr__"=some (some (.builtin "object.__setattr__")))
  (Pb:PySem.W.subIn K (.ref ql) (.type "BaseException")=some true)
  (BJ:PySem.W.typeIn K (.ref ql)=some (.type "type"))
  (qhT:PySem.W.keepIn K (.ref ql)=true)
  (CP:PySem.W.findIn K (.ref ql) "__getattribute__"=some (some (.builtin "BaseException.__getattribute__")))
  (CT:PySem.W.findIn K (.ref ql) "__getattr__"=some none)
  (CW:PySem.W.hasDictIn K ql=true)
  (qhI:PySem.W.findIn K (.ref ql) "__class__"=some (some (.builtin "object.__class__")))
  (qhV:PySem.W.mroIn K ql (.type "object")=some true)
  (hn_:PySem.W.specialIn K (.builtin "object.__class__") "__get__"=some (some (.builtin "getset_descriptor.__get__")))
  (ht_:PySem.W.takesIn K (.builtin "object.__class__")=some true)
  (Fd:PySem.W.findIn K (.ref qC) "__init__"=some (some (.ref Xu)))
  (Fv:PySem.W.typeIn K (.ref Xu)=some (.type "function"))
  (qm0:K.lookup Xu=some ⟨qrq,qqs,.func (PySem.W.fnOf "__init__" "BadItem.__init__" (defArgs Uc) (defBody Uc) (defScope Uc) .none qp2 qmw qq1 qpt qcI qmn),qq9⟩)
  (qm8:PySem.W.codeIn K qcI "BadItem.__init__"=true)
  (qng:PySem.W.keepIn K (.ref Xu)=true)
  (Sy:PySem.W.findIn K (.ref qC) "at"=some none)
  (Ba:PySem.W.findIn K (.ref qY) "__init__"=some (some (.ref Rq)))
  (Bp:PySem.W.typeIn K (.ref Rq)=some (.type "function"))
  (qqA:K.lookup Rq=some ⟨qt0,qte,.func (PySem.W.fnOf "__init__" "BadKey.__init__" (defArgs Ud) (defBody Ud) (defScope Ud) .none qsU qpT qtC qsw qf3 qpK),qtM⟩)
  (qqJ:PySem.W.codeIn K qf3 "BadKey.__init__"=true)
  (qqS:PySem.W.keepIn K (.ref Rq)=true)
  (XS:PySem.W.findIn K (.ref qY) "table"=some none)
  (Fe:PySem.W.findIn K (.ref qD) "__init__"=some (some (.ref Xv)))
  (Fw:PySem.W.typeIn K (.ref Xv)=some (.type "function"))
  (qm1:K.lookup Xv=some ⟨qrr,qqt,.func (PySem.W.fnOf "__init__" "BadMade.__init__" (defArgs Ue) (defBody Ue) (defScope Ue) .none qp3 qmx qq2 qpu qcJ qmo),qra⟩)
  (qm9:PySem.W.codeIn K qcJ "BadMade.__init__"=true)
  (qnh:PySem.W.keepIn K (.ref Xv)=true)
  (SJ:PySem.W.findIn K (.ref qD) "at"=some none)
  (Fg:PySem.W.findIn K (.ref qF) "__init__"=some (some (.ref Xw)))
  (Fx:PySem.W.typeIn K (.ref Xw)=some (.type "function"))
  (qm2:K.lookup Xw=some ⟨qrs,qqu,.func (PySem.W.fnOf "__init__" "BadMark.__init__" (defArgs Ug) (defBody Ug) (defScope Ug) .none qp4 qmy qq3 qpv qcK qmp),qrb⟩)
  (qna:PySem.W.codeIn K qcK "BadMark.__init__"=true)
  (qni:PySem.W.keepIn K (.ref Xw)=true)
  (X3:PySem.W.findIn K (.ref qF) "name"=some none)
  (Sw:PySem.W.findIn K (.ref qd) "__init__"=some (some (.ref Q8)))
  (SN:PySem.W.typeIn K (.ref Q8)=some (.type "function"))
  (qaL:K.lookup Q8=some ⟨qdK,qdw,.func (PySem.W.fnOf "__init__" "BadReference.__init__" (defArgs Uh) (defBody Uh) (defScope Uh) .none qds qaI qdx qcH PB qaH),qdB⟩)
  (qaM:PySem.W.codeIn K PB "BadReference.__init__"=true)
  (qaN:PySem.W.keepIn K (.ref Q8)=true)
  (Xd:PySem.W.findIn K (.ref qd) "at"=some none)
  (Bb:PySem.W.findIn K (.ref qP) "__init__"=some (some (.ref Rr)))
  (Bq:PySem.W.typeIn K (.ref Rr)=some (.type "function"))
  (qqB:K.lookup Rr=some ⟨qt1,qtf,.func (PySem.W.fnOf "__init__" "BadRow.__init__" (defArgs Ui) (defBody Ui) (defScope Ui) .none qsV qpU qtD qsx qf4 qpL),qtN⟩)
  (qqK:PySem.W.codeIn K qf4 "BadRow.__init__"=true)
  (qqT:PySem.W.keepIn K (.ref Rr)=true)
  (X4:PySem.W.findIn K (.ref qP) "table"=some none)
  (Tz:PySem.W.findIn K (.ref qP) "at"=some none)
  (Ph:PySem.W.findIn K (.ref qp) "__init__"=some (some (.ref Xh)))
  (Pn:PySem.W.typeIn K (.ref Xh)=some (.type "function"))
  (qlf:K.lookup Xh=some ⟨qnD,qmX,.func (PySem.W.fnOf "__init__" "BadShown.__init__" (defArgs Uj) (defBody Uj) (defScope Uj) .none qmE qkG qnp qmc qan qkD),qns⟩)
  (qli:PySem.W.codeIn K qan "BadShown.__init__"=true)
  (qll:PySem.W.keepIn K (.ref Xh)=true)
  (RD:PySem.W.findIn K (.ref qp) "at"=some none)
  (qhS:PySem.W.findIn K (.ref QT) "__init__"=some (some (.ref Nb)))
  (qh2:PySem.W.typeIn K (.ref Nb)=some (.type "function"))
  (qu6:K.lookup Nb=some ⟨qv6,qv3,.func (PySem.W.fnOf "__init__" "Full.__init__" (defArgs Uk) (defBody Uk) (defScope Uk) .none qv2 quT qv4 qv1 qoY quS),qv5⟩)
  (qu7:PySem.W.codeIn K qoY "Full.__init__"=true)
  (qu8:PySem.W.keepIn K (.ref Nb)=true)
  (SM:PySem.W.findIn K (.ref QT) "limit"=some none)
  (Bc:PySem.W.findIn K (.ref qQ) "__init__"=some (some (.ref Ru)))
  (Br:PySem.W.typeIn K (.ref Ru)=some (.type "function"))
  (qqC:K.lookup Ru=some ⟨qt2,qtg,.func (PySem.W.fnOf "__init__" "Hidden.__init__" (defArgs Ul) (defBody Ul) (defScope Ul) .none qsW qpV qtE qsy qf5 qpM),qtO⟩)
  (qqL:PySem.W.codeIn K qf5 "Hidden.__init__"=true)
  (qqU:PySem.W.keepIn K (.ref Ru)=true)
  (X5:PySem.W.findIn K (.ref qQ) "place"=some none)
  (RJ:PySem.W.findIn K (.ref qQ) "loop"=some none)
  (qa7:PySem.W.findIn K (.ref Qu) "__init__"=some (some (.ref Tn)))
  (qbc:PySem.W.typeIn K (.ref Tn)=some (.type "function"))
  (qtn:K.lookup Tn=some ⟨qvk,qu1,.func (PySem.W.fnOf "__init__" "Loose.__init__" (defArgs Um) (defBody Um) (defScope Um) .none quU qsP qu9 quM qkv qsK),qve⟩)
  (qts:PySem.W.codeIn K qkv "Loose.__init__"=true)
  (qtx:PySem.W.keepIn K (.ref Tn)=true)
  (Mj:PySem.W.findIn K (.ref Qu) "at"=some none)
  (Fj:PySem.W.findIn K (.ref qG) "__init__"=some (some (.ref Xx)))
  (Fy:PySem.W.typeIn K (.ref Xx)=some (.type "function"))
  (qm3:K.lookup Xx=some ⟨qrt,qqv,.func (PySem.W.fnOf "__init__" "Missing.__init__" (defArgs Uo) (defBody Uo) (defScope Uo) .none qp5 qmz qq4 qpw qcL qmq),qrc⟩)
  (qnb:PySem.W.codeIn K qcL "Missing.__init__"=true)
  (qnj:PySem.W.keepIn K (.ref Xx)=true)
  (X6:PySem.W.findIn K (.ref qG) "name"=some none)
  (MJ:PySem.W.findIn K (.ref ql) "__init__"=some (some (.ref Xc)))
  (MK:PySem.W.typeIn K (.ref Xc)=some (.type "function"))
  (qhX:K.lookup Xc=some ⟨qlI,qle,.func (PySem.W.fnOf "__init__" "NoCommand.__init__" (defArgs Uq) (defBody Uq) (defScope Uq) .none qkY qhQ qlo qku CN qhK),qlz⟩)
  (qhY:PySem.W.codeIn K CN "NoCommand.__init__"=true)
  (qhZ:PySem.W.keepIn K (.ref Xc)=true)
  (Fo:PySem.W.findIn K (.ref qH) "__init__"=some (some (.ref Xy)))
  (FJ:PySem.W.typeIn K (.ref Xy)=some (.type "function"))
  (qm4:K.lookup Xy=some ⟨qru,qqw,.func (PySem.W.fnOf "__init__" "NoEntry.__init__" (defArgs Ur) (defBody Ur) (defScope Ur) .none qp6 qmA qq5 qpx qcM qmr),qrd⟩)
  (qnc:PySem.W.codeIn K qcM "NoEntry.__init__"=true)
  (qnk:PySem.W.keepIn K (.ref Xy)=true)
  (X7:PySem.W.findIn K (.ref qH) "many"=some none)
  (Bf:PySem.W.findIn K (.ref Qg) "__init__"=some (some (.ref Rv)))
  (Bs:PySem.W.typeIn K (.ref Rv)=some (.type "function"))
  (qqD:K.lookup Rv=some ⟨qt3,qth,.func (PySem.W.fnOf "__init__" "NoMove.__init__" (defArgs Us) (defBody Us) (defScope Us) .none qsX qpW qtF qsz qf6 qpN),qtP⟩)
  (qqM:PySem.W.codeIn K qf6 "NoMove.__init__"=true)
  (qqV:PySem.W.keepIn K (.ref Rv)=true)
  (Pj:PySem.W.findIn K (.ref qu) "__init__"=some (some (.ref Xi)))
  (Pq:PySem.W.typeIn K (.ref Xi)=some (.type "function"))
  (qlg:K.lookup Xi=some ⟨qnE,qmY,.func (PySem.W.fnOf "__init__" "NoNumber.__init__" (defArgs Ut) (defBody Ut) (defScope Ut) .none qmF qkH qnq qmd qao qkE),qnt⟩)
  (qlj:PySem.W.codeIn K qao "NoNumber.__init__"=true)
  (qlm:PySem.W.keepIn K (.ref Xi)=true)
  (Xe:PySem.W.findIn K (.ref qu) "number"=some none)
  (Bg:PySem.W.findIn K (.ref qR) "__init__"=some (some (.ref Rw)))
  (Bt:PySem.W.typeIn K (.ref Rw)=some (.type "function"))
  (qqE:K.lookup Rw=some ⟨qt4,qti,.func (PySem.W.fnOf "__init__" "NoSite.__init__" (defArgs Uu) (defBody Uu) (defScope Uu) .none qsY qpX qtG qsA qf7 qpO),qtQ⟩)
  (qqN:PySem.W.codeIn K qf7 "NoSite.__init__"=true)
  (qqW:PySem.W.keepIn K (.ref Rw)=true)
  (Xm:PySem.W.findIn K (.ref qR) "stream"=some none)
  (X8:PySem.W.findIn K (.ref qR) "index"=some none)
  (Bj:PySem.W.findIn K (.ref Qh) "__init__"=some (some (.ref Rx)))
  (Bu:PySem.W.typeIn K (.ref Rx)=some (.type "function"))
  (qqF:K.lookup Rx=some ⟨qt5,qtj,.func (PySem.W.fnOf "__init__" "NoText.__init__" (defArgs Uv) (defBody Uv) (defScope Uv) .none qsZ qpY qtH qsB qf8 qpP),qtR⟩)
  (qqO:PySem.W.codeIn K qf8 "NoText.__init__"=true)
  (qqX:PySem.W.keepIn K (.ref Rx)=true)
  (qa8:PySem.W.findIn K (.ref Qx) "__init__"=some (some (.ref Tp)))
  (qbd:PySem.W.typeIn K (.ref Tp)=some (.type "function"))
  (qto:K.lookup Tp=some ⟨qvl,qu2,.func (PySem.W.fnOf "__init__" "NoUse.__init__" (defArgs Uw) (defBody Uw) (defScope Uw) .none quV qsQ qva quN qkw qsL),qvf⟩)
  (qtt:PySem.W.codeIn K qkw "NoUse.__init__"=true)
  (qty:PySem.W.keepIn K (.ref Tp)=true)
  (Pk:PySem.W.findIn K (.ref qw) "__init__"=some (some (.ref Xj)))
  (Pr:PySem.W.typeIn K (.ref Xj)=some (.type "function"))
  (qlh:K.lookup Xj=some ⟨qnF,qmZ,.func (PySem.W.fnOf "__init__" "NotFixed.__init__" (defArgs Ux) (defBody Ux) (defScope Ux) .none qmG qkI qnr qme qap qkF),qnu⟩)
  (qlk:PySem.W.codeIn K qap "NotFixed.__init__"=true)
  (qln:PySem.W.keepIn K (.ref Xj)=true)
  (Xn:PySem.W.findIn K (.ref qw) "name"=some none)
  (Fp:PySem.W.findIn K (.ref qK) "__init__"=some (some (.ref Xz)))
  (FQ:PySem.W.typeIn K (.ref Xz)=some (.type "function"))
  (qm5:K.lookup Xz=some ⟨qrv,qqx,.func (PySem.W.fnOf "__init__" "Nothing.__init__" (defArgs Uy) (defBody Uy) (defScope Uy) .none qp7 qmB qq6 qpy qcN qms),qre⟩)
  (qnd:PySem.W.codeIn K qcN "Nothing.__init__"=true)
  (qnl:PySem.W.keepIn K (.ref Xz)=true)
  (Bl:PySem.W.findIn K (.ref qL) "__init__"=some (some (.ref Ry)))
  (Bv:PySem.W.typeIn K (.ref Ry)=some (.type "function"))
  (qqG:K.lookup Ry=some ⟨qt6,qtk,.func (PySem.W.fnOf "__init__" "Parted.__init__" (defArgs Uz) (defBody Uz) (defScope Uz) .none qs0 qpZ qtI qsC qf9 qpQ),qtS⟩)
  (qqP:PySem.W.codeIn K qf9 "Parted.__init__"=true)
  (qqY:PySem.W.keepIn K (.ref Ry)=true)
  (Xo:PySem.W.findIn K (.ref qL) "stream"=some none)
  (Ra:PySem.W.findIn K (.ref qL) "index"=some none)
  (RK:PySem.W.findIn K (.ref qL) "word"=some none)
  (Bm:PySem.W.findIn K (.ref qT) "__init__"=some (some (.ref Rz)))
  (Bw:PySem.W.typeIn K (.ref Rz)=some (.type "function"))
  (qqH:K.lookup Rz=some ⟨qt7,qtl,.func (PySem.W.fnOf "__init__" "Ringed.__init__" (defArgs UG) (defBody UG) (defScope UG) .none qs1 qp0 qtJ qsD qga qpR),qtT⟩)
  (qqQ:PySem.W.codeIn K qga "Ringed.__init__"=true)
  (qqZ:PySem.W.keepIn K (.ref Rz)=true)
  (Rb:PySem.W.findIn K (.ref qT) "table"=some none)
  (Xp:PySem.W.findIn K (.ref qT) "column"=some none)
  (Fq:PySem.W.findIn K (.ref qI) "__init__"=some (some (.ref XC)))
  (FT:PySem.W.typeIn K (.ref XC)=some (.type "function"))
  (qm6:K.lookup XC=some ⟨qrw,qqy,.func (PySem.W.fnOf "__init__" "TooMany.__init__" (defArgs UJ) (defBody UJ) (defScope UJ) .none qp8 qmC qq7 qpz qcO qmt),qrf⟩)
  (qne:PySem.W.codeIn K qcO "TooMany.__init__"=true)
  (qnm:PySem.W.keepIn K (.ref XC)=true)
  (Xq:PySem.W.findIn K (.ref qI) "limit"=some none)
  (qa9:PySem.W.findIn K (.ref Qv) "__init__"=some (some (.ref Tq)))
  (qbe:PySem.W.typeIn K (.ref Tq)=some (.type "function"))
  (qtp:K.lookup Tq=some ⟨qvm,qu3,.func (PySem.W.fnOf "__init__" "Twice.__init__" (defArgs UL) (defBody UL) (defScope UL) .none quW qsR qvb quO qkx qsM),qvg⟩)
  (qtu:PySem.W.codeIn K qkx "Twice.__init__"=true)
  (qtz:PySem.W.keepIn K (.ref Tq)=true)
  (RL:PySem.W.findIn K (.ref Qv) "table"=some none)
  (qba:PySem.W.findIn K (.ref Qy) "__init__"=some (some (.ref Tr)))
  (qbf:PySem.W.typeIn K (.ref Tr)=some (.type "function"))
  (qtq:K.lookup Tr=some ⟨qvn,qu4,.func (PySem.W.fnOf "__init__" "Unfit.__init__" (defArgs UT) (defBody UT) (defScope UT) .none quX qsS qvc quP qky qsN),qvh⟩)
  (qtv:PySem.W.codeIn K qky "Unfit.__init__"=true)
  (qtA:PySem.W.keepIn K (.ref Tr)=true)
  (Ft:PySem.W.findIn K (.ref qJ) "__init__"=some (some (.ref XD)))
  (FZ:PySem.W.typeIn K (.ref XD)=some (.type "function"))
  (qm7:K.lookup XD=some ⟨qrx,qqz,.func (PySem.W.fnOf "__init__" "Unknown.__init__" (defArgs UV) (defBody UV) (defScope UV) .none qp9 qmD qq8 qpA qcP qmu),qrg⟩)
  (qnf:PySem.W.codeIn K qcP "Unknown.__init__"=true)
  (qnn:PySem.W.keepIn K (.ref XD)=true)
  (Rf:PySem.W.findIn K (.ref qJ) "name"=some none)
  (Bo:PySem.W.findIn K (.ref Qi) "__init__"=some (some (.ref RB)))
  (Bx:PySem.W.typeIn K (.ref RB)=some (.type "function"))
  (qqI:K.lookup RB=some ⟨qt8,qtm,.func (PySem.W.fnOf "__init__" "Unlike.__init__" (defArgs UW) (defBody UW) (defScope UW) .none qs2 qp1 qtK qsE qgb qpS),qtU⟩)
  (qqR:PySem.W.codeIn K qgb "Unlike.__init__"=true)
  (qq0:PySem.W.keepIn K (.ref RB)=true)
  (qbb:PySem.W.findIn K (.ref Qw) "__init__"=some (some (.ref Tt)))
  (qbg:PySem.W.typeIn K (.ref Tt)=some (.type "function"))
  (qtr:K.lookup Tt=some ⟨qvo,qu5,.func (PySem.W.fnOf "__init__" "Wrong.__init__" (defArgs U0) (defBody U0) (defScope U0) .none quY qsT qvd quQ qkz qsO),qvi⟩)
  (qtw:PySem.W.codeIn K qkz "Wrong.__init__"=true)
  (qtB:PySem.W.keepIn K (.ref Tt)=true)
  (RM:PySem.W.findIn K (.ref Qw) "place"=some none)
  (qU:PySem.W.specialIn K (.ref qj) "__getattribute__"=some (some (.builtin "type.__getattribute__")))
  (qW:PySem.W.readsIn K qj (.type "type")=true)
  (qX:PySem.W.findCls K (.ref qj) (.type "type") "__init__"=some (.val (.builtin "ValueError.__init__")))
  (qph:ZG [("PlanError",qj,qO),("Wrong",Qw,Q5),("BadKey",qY,Qz),("BadReference",qd,qm),("BadMade",qD,Qm),("Ringed",qT,QM),("Unknown",qJ,Qt),("NotFixed",qw,Qe),("BadRow",qP,QC),("Missing",qG,Qo),("BadItem",qC,Ql),("BadShown",qp,Qa),("BadMark",qF,Qn),("NoUse",Qx,QW),("Hidden",qQ,QD),("Loose",Qu,QV),("NoSite",qR,QJ),("Unlike",Qi,QS),("Parted",qL,QL),("NoNumber",qu,Qc),("NoMove",Qg,QG),("Twice",Qv,QX),("TooMany",qI,Qs),("Full",QT,Q7),("Unfit",Qy,QZ),("Nothing",qK,Qq),("NoEntry",qH,Qp),("NoText",Qh,QK),("NoCommand",ql,qN)] ("BadItem",qC)=true)
  (qrT:ZG [("PlanError",qj,qO),("Wrong",Qw,Q5),("BadKey",qY,Qz),("BadReference",qd,qm),("BadMade",qD,Qm),("Ringed",qT,QM),("Unknown",qJ,Qt),("NotFixed",qw,Qe),("BadRow",qP,QC),("Missing",qG,Qo),("BadItem",qC,Ql),("BadShown",qp,Qa),("BadMark",qF,Qn),("NoUse",Qx,QW),("Hidden",qQ,QD),("Loose",Qu,QV),("NoSite",qR,QJ),("Unlike",Qi,QS),("Parted",qL,QL),("NoNumber",qu,Qc),("NoMove",Qg,QG),("Twice",Qv,QX),("TooMany",qI,Qs),("Full",QT,Q7),("Unfit",Qy,QZ),("Nothing",qK,Qq),("NoEntry",qH,Qp),("NoText",Qh,QK),("NoCommand",ql,qN)] ("BadKey",qY)=true)
  (qpi:ZG [("PlanError",qj,qO),("Wrong",Qw,Q5),("BadKey",qY,Qz),("BadReference",qd,qm),("BadMade",qD,Qm),("Ringed",qT,QM),("Unknown",qJ,Qt),("NotFixed",qw,Qe),("BadRow",qP,QC),("Missing",qG,Qo),("BadItem",qC,Ql),("BadShown",qp,Qa),("BadMark",qF,Qn),("NoUse",Qx,QW),("Hidden",qQ,QD),("Loose",Qu,QV),("NoSite",qR,QJ),("Unlike",Qi,QS),("Parted",qL,QL),("NoNumber",qu,Qc),("NoMove",Qg,QG),("Twice",Qv,QX),("TooMany",qI,Qs),("Full",QT,Q7),("Unfit",Qy,QZ),("Nothing",qK,Qq),("NoEntry",qH,Qp),("NoText",Qh,QK),("NoCommand",ql,qN)] ("BadMade",qD)=true)
  (qpj:ZG [("PlanError",qj,qO),("Wrong",Qw,Q5),("BadKey",qY,Qz),("BadReference",qd,qm),("BadMade",qD,Qm),("Ringed",qT,QM),("Unknown",qJ,Qt),("NotFixed",qw,Qe),("BadRow",qP,QC),("Missing",qG,Qo),("BadItem",qC,Ql),("BadShown",qp,Qa),("BadMark",qF,Qn),("NoUse",Qx,QW),("Hidden",qQ,QD),("Loose",Qu,QV),("NoSite",qR,QJ),("Unlike",Qi,QS),("Parted",qL,QL),("NoNumber",qu,Qc),("NoMove",Qg,QG),("Twice",Qv,QX),("TooMany",qI,Qs),("Full",QT,Q7),("Unfit",Qy,QZ),("Nothing",qK,Qq),("NoEntry",qH,Qp),("NoText",Qh,QK),("NoCommand",ql,qN)] ("BadMark",qF)=true)
  (qby:ZG [("PlanError",qj,qO),("Wrong",Qw,Q5),("BadKey",qY,Qz),("BadReference",qd,qm),("BadMade",qD,Qm),("Ringed",qT,QM),("Unknown",qJ,Qt),("NotFixed",qw,Qe),("BadRow",qP,QC),("Missing",qG,Qo),("BadItem",qC,Ql),("BadShown",qp,Qa),("BadMark",qF,Qn),("NoUse",Qx,QW),("Hidden",qQ,QD),("Loose",Qu,QV),("NoSite",qR,QJ),("Unlike",Qi,QS),("Parted",qL,QL),("NoNumber",qu,Qc),("NoMove",Qg,QG),("Twice",Qv,QX),("TooMany",qI,Qs),("Full",QT,Q7),("Unfit",Qy,QZ),("Nothing",qK,Qq),("NoEntry",qH,Qp),("NoText",Qh,QK),("NoCommand",ql,qN)] ("BadReference",qd)=true)
  (qrU:ZG [("PlanError",qj,qO),("Wrong",Qw,Q5),("BadKey",qY,Qz),("BadReference",qd,qm),("BadMade",qD,Qm),("Ringed",qT,QM),("Unknown",qJ,Qt),("NotFixed",qw,Qe),("BadRow",qP,QC),("Missing",qG,Qo),("BadItem",qC,Ql),("BadShown",qp,Qa),("BadMark",qF,Qn),("NoUse",Qx,QW),("Hidden",qQ,QD),("Loose",Qu,QV),("NoSite",qR,QJ),("Unlike",Qi,QS),("Parted",qL,QL),("NoNumber",qu,Qc),("NoMove",Qg,QG),("Twice",Qv,QX),("TooMany",qI,Qs),("Full",QT,Q7),("Unfit",Qy,QZ),("Nothing",qK,Qq),("NoEntry",qH,Qp),("NoText",Qh,QK),("NoCommand",ql,qN)] ("BadRow",qP)=true)
  (qlU:ZG [("PlanError",qj,qO),("Wrong",Qw,Q5),("BadKey",qY,Qz),("BadReference",qd,qm),("BadMade",qD,Qm),("Ringed",qT,QM),("Unknown",qJ,Qt),("NotFixed",qw,Qe),("BadRow",qP,QC),("Missing",qG,Qo),("BadItem",qC,Ql),("BadShown",qp,Qa),("BadMark",qF,Qn),("NoUse",Qx,QW),("Hidden",qQ,QD),("Loose",Qu,QV),("NoSite",qR,QJ),("Unlike",Qi,QS),("Parted",qL,QL),("NoNumber",qu,Qc),("NoMove",Qg,QG),("Twice",Qv,QX),("TooMany",qI,Qs),("Full",QT,Q7),("Unfit",Qy,QZ),("Nothing",qK,Qq),("NoEntry",qH,Qp),("NoText",Qh,QK),("NoCommand",ql,qN)] ("BadShown",qp)=true)
  (qvC:ZG [("PlanError",qj,qO),("Wrong",Qw,Q5),("BadKey",qY,Qz),("BadReference",qd,qm),("BadMade",qD,Qm),("Ringed",qT,QM),("Unknown",qJ,Qt),("NotFixed",qw,Qe),("BadRow",qP,QC),("Missing",qG,Qo),("BadItem",qC,Ql),("BadShown",qp,Qa),("BadMark",qF,Qn),("NoUse",Qx,QW),("Hidden",qQ,QD),("Loose",Qu,QV),("NoSite",qR,QJ),("Unlike",Qi,QS),("Parted",qL,QL),("NoNumber",qu,Qc),("NoMove",Qg,QG),("Twice",Qv,QX),("TooMany",qI,Qs),("Full",QT,Q7),("Unfit",Qy,QZ),("Nothing",qK,Qq),("NoEntry",qH,Qp),("NoText",Qh,QK),("NoCommand",ql,qN)] ("Full",QT)=true)
  (qrV:ZG [("PlanError",qj,qO),("Wrong",Qw,Q5),("BadKey",qY,Qz),("BadReference",qd,qm),("BadMade",qD,Qm),("Ringed",qT,QM),("Unknown",qJ,Qt),("NotFixed",qw,Qe),("BadRow",qP,QC),("Missing",qG,Qo),("BadItem",qC,Ql),("BadShown",qp,Qa),("BadMark",qF,Qn),("NoUse",Qx,QW),("Hidden",qQ,QD),("Loose",Qu,QV),("NoSite",qR,QJ),("Unlike",Qi,QS),("Parted",qL,QL),("NoNumber",qu,Qc),("NoMove",Qg,QG),("Twice",Qv,QX),("TooMany",qI,Qs),("Full",QT,Q7),("Unfit",Qy,QZ),("Nothing",qK,Qq),("NoEntry",qH,Qp),("NoText",Qh,QK),("NoCommand",ql,qN)] ("Hidden",qQ)=true)
  (qum:ZG [("PlanError",qj,qO),("Wrong",Qw,Q5),("BadKey",qY,Qz),("BadReference",qd,qm),("BadMade",qD,Qm),("Ringed",qT,QM),("Unknown",qJ,Qt),("NotFixed",qw,Qe),("BadRow",qP,QC),("Missing",qG,Qo),("BadItem",qC,Ql),("BadShown",qp,Qa),("BadMark",qF,Qn),("NoUse",Qx,QW),("Hidden",qQ,QD),("Loose",Qu,QV),("NoSite",qR,QJ),("Unlike",Qi,QS),("Parted",qL,QL),("NoNumber",qu,Qc),("NoMove",Qg,QG),("Twice",Qv,QX),("TooMany",qI,Qs),("Full",QT,Q7),("Unfit",Qy,QZ),("Nothing",qK,Qq),("NoEntry",qH,Qp),("NoText",Qh,QK),("NoCommand",ql,qN)] ("Loose",Qu)=true)
  (qpk:ZG [("PlanError",qj,qO),("Wrong",Qw,Q5),("BadKey",qY,Qz),("BadReference",qd,qm),("BadMade",qD,Qm),("Ringed",qT,QM),("Unknown",qJ,Qt),("NotFixed",qw,Qe),("BadRow",qP,QC),("Missing",qG,Qo),("BadItem",qC,Ql),("BadShown",qp,Qa),("BadMark",qF,Qn),("NoUse",Qx,QW),("Hidden",qQ,QD),("Loose",Qu,QV),("NoSite",qR,QJ),("Unlike",Qi,QS),("Parted",qL,QL),("NoNumber",qu,Qc),("NoMove",Qg,QG),("Twice",Qv,QX),("TooMany",qI,Qs),("Full",QT,Q7),("Unfit",Qy,QZ),("Nothing",qK,Qq),("NoEntry",qH,Qp),("NoText",Qh,QK),("NoCommand",ql,qN)] ("Missing",qG)=true)
  (qio:ZG [("PlanError",qj,qO),("Wrong",Qw,Q5),("BadKey",qY,Qz),("BadReference",qd,qm),("BadMade",qD,Qm),("Ringed",qT,QM),("Unknown",qJ,Qt),("NotFixed",qw,Qe),("BadRow",qP,QC),("Missing",qG,Qo),("BadItem",qC,Ql),("BadShown",qp,Qa),("BadMark",qF,Qn),("NoUse",Qx,QW),("Hidden",qQ,QD),("Loose",Qu,QV),("NoSite",qR,QJ),("Unlike",Qi,QS),("Parted",qL,QL),("NoNumber",qu,Qc),("NoMove",Qg,QG),("Twice",Qv,QX),("TooMany",qI,Qs),("Full",QT,Q7),("Unfit",Qy,QZ),("Nothing",qK,Qq),("NoEntry",qH,Qp),("NoText",Qh,QK),("NoCommand",ql,qN)] ("NoCommand",ql)=true)
  (qpl:ZG [("PlanError",qj,qO),("Wrong",Qw,Q5),("BadKey",qY,Qz),("BadReference",qd,qm),("BadMade",qD,Qm),("Ringed",qT,QM),("Unknown",qJ,Qt),("NotFixed",qw,Qe),("BadRow",qP,QC),("Missing",qG,Qo),("BadItem",qC,Ql),("BadShown",qp,Qa),("BadMark",qF,Qn),("NoUse",Qx,QW),("Hidden",qQ,QD),("Loose",Qu,QV),("NoSite",qR,QJ),("Unlike",Qi,QS),("Parted",qL,QL),("NoNumber",qu,Qc),("NoMove",Qg,QG),("Twice",Qv,QX),("TooMany",qI,Qs),("Full",QT,Q7),("Unfit",Qy,QZ),("Nothing",qK,Qq),("NoEntry",qH,Qp),("NoText",Qh,QK),("NoCommand",ql,qN)] ("NoEntry",qH)=true)
  (qrW:ZG [("PlanError",qj,qO),("Wrong",Qw,Q5),("BadKey",qY,Qz),("BadReference",qd,qm),("BadMade",qD,Qm),("Ringed",qT,QM),("Unknown",qJ,Qt),("NotFixed",qw,Qe),("BadRow",qP,QC),("Missing",qG,Qo),("BadItem",qC,Ql),("BadShown",qp,Qa),("BadMark",qF,Qn),("NoUse",Qx,QW),("Hidden",qQ,QD),("Loose",Qu,QV),("NoSite",qR,QJ),("Unlike",Qi,QS),("Parted",qL,QL),("NoNumber",qu,Qc),("NoMove",Qg,QG),("Twice",Qv,QX),("TooMany",qI,Qs),("Full",QT,Q7),("Unfit",Qy,QZ),("Nothing",qK,Qq),("NoEntry",qH,Qp),("NoText",Qh,QK),("NoCommand",ql,qN)] ("NoMove",Qg)=true)
  (qlV:ZG [("PlanError",qj,qO),("Wrong",Qw,Q5),("BadKey",qY,Qz),("BadReference",qd,qm),("BadMade",qD,Qm),("Ringed",qT,QM),("Unknown",qJ,Qt),("NotFixed",qw,Qe),("BadRow",qP,QC),("Missing",qG,Qo),("BadItem",qC,Ql),("BadShown",qp,Qa),("BadMark",qF,Qn),("NoUse",Qx,QW),("Hidden",qQ,QD),("Loose",Qu,QV),("NoSite",qR,QJ),("Unlike",Qi,QS),("Parted",qL,QL),("NoNumber",qu,Qc),("NoMove",Qg,QG),("Twice",Qv,QX),("TooMany",qI,Qs),("Full",QT,Q7),("Unfit",Qy,QZ),("Nothing",qK,Qq),("NoEntry",qH,Qp),("NoText",Qh,QK),("NoCommand",ql,qN)] ("NoNumber",qu)=true)
  (qrX:ZG [("PlanError",qj,qO),("Wrong",Qw,Q5),("BadKey",qY,Qz),("BadReference",qd,qm),("BadMade",qD,Qm),("Ringed",qT,QM),("Unknown",qJ,Qt),("NotFixed",qw,Qe),("BadRow",qP,QC),("Missing",qG,Qo),("BadItem",qC,Ql),("BadShown",qp,Qa),("BadMark",qF,Qn),("NoUse",Qx,QW),("Hidden",qQ,QD),("Loose",Qu,QV),("NoSite",qR,QJ),("Unlike",Qi,QS),("Parted",qL,QL),("NoNumber",qu,Qc),("NoMove",Qg,QG),("Twice",Qv,QX),("TooMany",qI,Qs),("Full",QT,Q7),("Unfit",Qy,QZ),("Nothing",qK,Qq),("NoEntry",qH,Qp),("NoText",Qh,QK),("NoCommand",ql,qN)] ("NoSite",qR)=true)
  (qrY:ZG [("PlanError",qj,qO),("Wrong",Qw,Q5),("BadKey",qY,Qz),("BadReference",qd,qm),("BadMade",qD,Qm),("Ringed",qT,QM),("Unknown",qJ,Qt),("NotFixed",qw,Qe),("BadRow",qP,QC),("Missing",qG,Qo),("BadItem",qC,Ql),("BadShown",qp,Qa),("BadMark",qF,Qn),("NoUse",Qx,QW),("Hidden",qQ,QD),("Loose",Qu,QV),("NoSite",qR,QJ),("Unlike",Qi,QS),("Parted",qL,QL),("NoNumber",qu,Qc),("NoMove",Qg,QG),("Twice",Qv,QX),("TooMany",qI,Qs),("Full",QT,Q7),("Unfit",Qy,QZ),("Nothing",qK,Qq),("NoEntry",qH,Qp),("NoText",Qh,QK),("NoCommand",ql,qN)] ("NoText",Qh)=true)
  (qun:ZG [("PlanError",qj,qO),("Wrong",Qw,Q5),("BadKey",qY,Qz),("BadReference",qd,qm),("BadMade",qD,Qm),("Ringed",qT,QM),("Unknown",qJ,Qt),("NotFixed",qw,Qe),("BadRow",qP,QC),("Missing",qG,Qo),("BadItem",qC,Ql),("BadShown",qp,Qa),("BadMark",qF,Qn),("NoUse",Qx,QW),("Hidden",qQ,QD),("Loose",Qu,QV),("NoSite",qR,QJ),("Unlike",Qi,QS),("Parted",qL,QL),("NoNumber",qu,Qc),("NoMove",Qg,QG),("Twice",Qv,QX),("TooMany",qI,Qs),("Full",QT,Q7),("Unfit",Qy,QZ),("Nothing",qK,Qq),("NoEntry",qH,Qp),("NoText",Qh,QK),("NoCommand",ql,qN)] ("NoUse",Qx)=true)
  (qlW:ZG [("PlanError",qj,qO),("Wrong",Qw,Q5),("BadKey",qY,Qz),("BadReference",qd,qm),("BadMade",qD,Qm),("Ringed",qT,QM),("Unknown",qJ,Qt),("NotFixed",qw,Qe),("BadRow",qP,QC),("Missing",qG,Qo),("BadItem",qC,Ql),("BadShown",qp,Qa),("BadMark",qF,Qn),("NoUse",Qx,QW),("Hidden",qQ,QD),("Loose",Qu,QV),("NoSite",qR,QJ),("Unlike",Qi,QS),("Parted",qL,QL),("NoNumber",qu,Qc),("NoMove",Qg,QG),("Twice",Qv,QX),("TooMany",qI,Qs),("Full",QT,Q7),("Unfit",Qy,QZ),("Nothing",qK,Qq),("NoEntry",qH,Qp),("NoText",Qh,QK),("NoCommand",ql,qN)] ("NotFixed",qw)=true)
  (qpm:ZG [("PlanError",qj,qO),("Wrong",Qw,Q5),("BadKey",qY,Qz),("BadReference",qd,qm),("BadMade",qD,Qm),("Ringed",qT,QM),("Unknown",qJ,Qt),("NotFixed",qw,Qe),("BadRow",qP,QC),("Missing",qG,Qo),("BadItem",qC,Ql),("BadShown",qp,Qa),("BadMark",qF,Qn),("NoUse",Qx,QW),("Hidden",qQ,QD),("Loose",Qu,QV),("NoSite",qR,QJ),("Unlike",Qi,QS),("Parted",qL,QL),("NoNumber",qu,Qc),("NoMove",Qg,QG),("Twice",Qv,QX),("TooMany",qI,Qs),("Full",QT,Q7),("Unfit",Qy,QZ),("Nothing",qK,Qq),("NoEntry",qH,Qp),("NoText",Qh,QK),("NoCommand",ql,qN)] ("Nothing",qK)=true)
  (qrZ:ZG [("PlanError",qj,qO),("Wrong",Qw,Q5),("BadKey",qY,Qz),("BadReference",qd,qm),("BadMade",qD,Qm),("Ringed",qT,QM),("Unknown",qJ,Qt),("NotFixed",qw,Qe),("BadRow",qP,QC),("Missing",qG,Qo),("BadItem",qC,Ql),("BadShown",qp,Qa),("BadMark",qF,Qn),("NoUse",Qx,QW),("Hidden",qQ,QD),("Loose",Qu,QV),("NoSite",qR,QJ),("Unlike",Qi,QS),("Parted",qL,QL),("NoNumber",qu,Qc),("NoMove",Qg,QG),("Twice",Qv,QX),("TooMany",qI,Qs),("Full",QT,Q7),("Unfit",Qy,QZ),("Nothing",qK,Qq),("NoEntry",qH,Qp),("NoText",Qh,QK),("NoCommand",ql,qN)] ("Parted",qL)=true)
  (qip:(([("PlanError",qj,qO),("Wrong",Qw,Q5),("BadKey",qY,Qz),("BadReference",qd,qm),("BadMade",qD,Qm),("Ringed",qT,QM),("Unknown",qJ,Qt),("NotFixed",qw,Qe),("BadRow",qP,QC),("Missing",qG,Qo),("BadItem",qC,Ql),("BadShown",qp,Qa),("BadMark",qF,Qn),("NoUse",Qx,QW),("Hidden",qQ,QD),("Loose",Qu,QV),("NoSite",qR,QJ),("Unlike",Qi,QS),("Parted",qL,QL),("NoNumber",qu,Qc),("NoMove",Qg,QG),("Twice",Qv,QX),("TooMany",qI,Qs),("Full",QT,Q7),("Unfit",Qy,QZ),("Nothing",qK,Qq),("NoEntry",qH,Qp),("NoText",Qh,QK),("NoCommand",ql,qN)]:List (Str×Addr×List Value)).all fun q=>decide (q.2.1=qj) || q.2.2.contains (.ref qj))=true)
  (qr0:ZG [("PlanError",qj,qO),("Wrong",Qw,Q5),("BadKey",qY,Qz),("BadReference",qd,qm),("BadMade",qD,Qm),("Ringed",qT,QM),("Unknown",qJ,Qt),("NotFixed",qw,Qe),("BadRow",qP,QC),("Missing",qG,Qo),("BadItem",qC,Ql),("BadShown",qp,Qa),("BadMark",qF,Qn),("NoUse",Qx,QW),("Hidden",qQ,QD),("Loose",Qu,QV),("NoSite",qR,QJ),("Unlike",Qi,QS),("Parted",qL,QL),("NoNumber",qu,Qc),("NoMove",Qg,QG),("Twice",Qv,QX),("TooMany",qI,Qs),("Full",QT,Q7),("Unfit",Qy,QZ),("Nothing",qK,Qq),("NoEntry",qH,Qp),("NoText",Qh,QK),("NoCommand",ql,qN)] ("Ringed",qT)=true)
  (qpn:ZG [("PlanError",qj,qO),("Wrong",Qw,Q5),("BadKey",qY,Qz),("BadReference",qd,qm),("BadMade",qD,Qm),("Ringed",qT,QM),("Unknown",qJ,Qt),("NotFixed",qw,Qe),("BadRow",qP,QC),("Missing",qG,Qo),("BadItem",qC,Ql),("BadShown",qp,Qa),("BadMark",qF,Qn),("NoUse",Qx,QW),("Hidden",qQ,QD),("Loose",Qu,QV),("NoSite",qR,QJ),("Unlike",Qi,QS),("Parted",qL,QL),("NoNumber",qu,Qc),("NoMove",Qg,QG),("Twice",Qv,QX),("TooMany",qI,Qs),("Full",QT,Q7),("Unfit",Qy,QZ),("Nothing",qK,Qq),("NoEntry",qH,Qp),("NoText",Qh,QK),("NoCommand",ql,qN)] ("TooMany",qI)=true)
  (qup:ZG [("PlanError",qj,qO),("Wrong",Qw,Q5),("BadKey",qY,Qz),("BadReference",qd,qm),("BadMade",qD,Qm),("Ringed",qT,QM),("Unknown",qJ,Qt),("NotFixed",qw,Qe),("BadRow",qP,QC),("Missing",qG,Qo),("BadItem",qC,Ql),("BadShown",qp,Qa),("BadMark",qF,Qn),("NoUse",Qx,QW),("Hidden",qQ,QD),("Loose",Qu,QV),("NoSite",qR,QJ),("Unlike",Qi,QS),("Parted",qL,QL),("NoNumber",qu,Qc),("NoMove",Qg,QG),("Twice",Qv,QX),("TooMany",qI,Qs),("Full",QT,Q7),("Unfit",Qy,QZ),("Nothing",qK,Qq),("NoEntry",qH,Qp),("NoText",Qh,QK),("NoCommand",ql,qN)] ("Twice",Qv)=true)
  (quq:ZG [("PlanError",qj,qO),("Wrong",Qw,Q5),("BadKey",qY,Qz),("BadReference",qd,qm),("BadMade",qD,Qm),("Ringed",qT,QM),("Unknown",qJ,Qt),("NotFixed",qw,Qe),("BadRow",qP,QC),("Missing",qG,Qo),("BadItem",qC,Ql),("BadShown",qp,Qa),("BadMark",qF,Qn),("NoUse",Qx,QW),("Hidden",qQ,QD),("Loose",Qu,QV),("NoSite",qR,QJ),("Unlike",Qi,QS),("Parted",qL,QL),("NoNumber",qu,Qc),("NoMove",Qg,QG),("Twice",Qv,QX),("TooMany",qI,Qs),("Full",QT,Q7),("Unfit",Qy,QZ),("Nothing",qK,Qq),("NoEntry",qH,Qp),("NoText",Qh,QK),("NoCommand",ql,qN)] ("Unfit",Qy)=true)
  (qpo:ZG [("PlanError",qj,qO),("Wrong",Qw,Q5),("BadKey",qY,Qz),("BadReference",qd,qm),("BadMade",qD,Qm),("Ringed",qT,QM),("Unknown",qJ,Qt),("NotFixed",qw,Qe),("BadRow",qP,QC),("Missing",qG,Qo),("BadItem",qC,Ql),("BadShown",qp,Qa),("BadMark",qF,Qn),("NoUse",Qx,QW),("Hidden",qQ,QD),("Loose",Qu,QV),("NoSite",qR,QJ),("Unlike",Qi,QS),("Parted",qL,QL),("NoNumber",qu,Qc),("NoMove",Qg,QG),("Twice",Qv,QX),("TooMany",qI,Qs),("Full",QT,Q7),("Unfit",Qy,QZ),("Nothing",qK,Qq),("NoEntry",qH,Qp),("NoText",Qh,QK),("NoCommand",ql,qN)] ("Unknown",qJ)=true)
  (qr1:ZG [("PlanError",qj,qO),("Wrong",Qw,Q5),("BadKey",qY,Qz),("BadReference",qd,qm),("BadMade",qD,Qm),("Ringed",qT,QM),("Unknown",qJ,Qt),("NotFixed",qw,Qe),("BadRow",qP,QC),("Missing",qG,Qo),("BadItem",qC,Ql),("BadShown",qp,Qa),("BadMark",qF,Qn),("NoUse",Qx,QW),("Hidden",qQ,QD),("Loose",Qu,QV),("NoSite",qR,QJ),("Unlike",Qi,QS),("Parted",qL,QL),("NoNumber",qu,Qc),("NoMove",Qg,QG),("Twice",Qv,QX),("TooMany",qI,Qs),("Full",QT,Q7),("Unfit",Qy,QZ),("Nothing",qK,Qq),("NoEntry",qH,Qp),("NoText",Qh,QK),("NoCommand",ql,qN)] ("Unlike",Qi)=true)
  (qur:ZG [("PlanError",qj,qO),("Wrong",Qw,Q5),("BadKey",qY,Qz),("BadReference",qd,qm),("BadMade",qD,Qm),("Ringed",qT,QM),("Unknown",qJ,Qt),("NotFixed",qw,Qe),("BadRow",qP,QC),("Missing",qG,Qo),("BadItem",qC,Ql),("BadShown",qp,Qa),("BadMark",qF,Qn),("NoUse",Qx,QW),("Hidden",qQ,QD),("Loose",Qu,QV),("NoSite",qR,QJ),("Unlike",Qi,QS),("Parted",qL,QL),("NoNumber",qu,Qc),("NoMove",Qg,QG),("Twice",Qv,QX),("TooMany",qI,Qs),("Full",QT,Q7),("Unfit",Qy,QZ),("Nothing",qK,Qq),("NoEntry",qH,Qp),("NoText",Qh,QK),("NoCommand",ql,qN)] ("Wrong",Qw)=true)
  (qis:PySem.W.excIn K qj [.type "ValueError",.type "Exception",.type "BaseException",.type "object"] "ValueError.__new__"=true)
  (qir:PySem.W.keepIn K (.ref qj)=true)
  (qlJ:PySem.W.nsIn K mainGlobals "ValueError"=some none)
  (qwR:PySem.W.nsIn K mainGlobals "abs"=some none)
  (qwD:PySem.W.nsIn K mainGlobals "dict"=some none)
  (qnG:PySem.W.nsIn K mainGlobals "enumerate"=some none)
  (qwS:PySem.W.nsIn K mainGlobals "int"=some none)
  (qlK:PySem.W.nsIn K mainGlobals "isinstance"=some none)
  (qwT:PySem.W.nsIn K mainGlobals "len"=some none)
  (qwE:PySem.W.nsIn K mainGlobals "list"=some none)
  (qv7:PySem.W.nsIn K mainGlobals "range"=some none)
  (qwF:PySem.W.nsIn K mainGlobals "repr"=some none)
  : ∃fd:FuncData,(∀(s:Shared) (v:Value),BindsTo s fd ⟨[v],[]⟩ [("_law_script",v)])∧∀base:Heap,K.In base→base.Ns mainGlobals mg→FnG l.prog w K mg base 4 fa fd ["_law_script"] (spD ⟨K,w,mg,none⟩ 1 BX):=by
 have e:=hfa.symm.trans (PySem.W.mg_of X G qvu)
 cases e
 have T6:=fun_mk (st:=Vr) ql7 ql8 ql9
 have Gz:=T6.binds (ps:=["_law_script"]) fun _ _ _ _ _ _ us hl=>match us,hl with | [_],_=>rfl
 have RN:=fun_mk (st:=Ua) qj2 qj3 qj4
 have T9:=RN.binds (ps:=["_law_bag_here","_law_most"]) fun _ _ _ _ _ _ us hl=>match us,hl with | [_,_],_=>rfl
 have RQ:=fun_mk (st:=V6) qhx qhz qhB
 have Ml:=RQ.binds (ps:=["_law_one","_law_other"]) fun _ _ _ _ _ _ us hl=>match us,hl with | [_,_],_=>rfl
 have RW:=fun_mk (st:=Ub) qhy qhA qhC
 have Mp:=RW.binds (ps:=["_law_bag_here"]) fun _ _ _ _ _ _ us hl=>match us,hl with | [_],_=>rfl
 have Rg:=fun_mk (st:=V8) qd3 qd5 qd7
 have TV:=Rg.binds (ps:=["_law_one","_law_two","_law_three"]) fun _ _ _ _ _ _ us hl=>match us,hl with | [_,_,_],_=>rfl
 have Xf:=fun_mk (st:=V7) qco qcp qcq
 have Ri:=Xf.binds (ps:=["_law_e"]) fun _ _ _ _ _ _ us hl=>match us,hl with | [_],_=>rfl
 have Rh:=fun_mk (st:=V9) qd4 qd6 qd8
 have TX:=Rh.binds (ps:=["_law_some"]) fun _ _ _ _ _ _ us hl=>match us,hl with | [_],_=>rfl
 have qrA:=fun_mk (st:=JS) qwv qww qwx
 have qvD:=qrA.binds (ps:=["_law_script"]) fun _ _ _ _ _ _ us hl=>match us,hl with | [_],_=>rfl
 have Mx:XcT K qj:=⟨⟨⟨qah,qct,qbj,Ii,qO,qaj,Cg,Ig,Dq,Ip,IK,IW,qab,qad,qaf,Gx,qaB⟩,qh1,Pg,Pu,qhU⟩,⟨CQ,CV,Pg,CZ⟩,⟨CQ,CV,Pg,CZ,qhJ,hn_,ht_,qhW⟩⟩
 have MF:XcT K Qw:=⟨⟨⟨qoI,qsu,qrN,qn2,Q5,qoW,qks,qnX,qiG,qn8,qoj,qoo,qot,qoy,qoD,qo6,qpb⟩,qtZ,qc3,qlH,qs7⟩,⟨qkN,qkS,qc3,qkX⟩,⟨qkN,qkS,qc3,qkX,qsJ,hn_,ht_,qtd⟩⟩
 have Tw:XcT K qY:=⟨⟨⟨qjQ,qoJ,qnH,qit,Qz,qkf,qfU,qie,qex,qiJ,qi7,qjg,qjp,qjy,qjH,qk2,qlp⟩,qrh,Aj,qgT,qqa⟩,⟨qgc,qgl,Aj,qgu⟩,⟨qgc,qgl,Aj,qgu,qpB,hn_,ht_,qqj⟩⟩
 have Xb:XcT K qd:=⟨⟨⟨HJ,Ef,Eb,Hl,qm,HS,Py,Hj,Px,Hq,Hu,Hv,Hw,Hz,HD,Gv,Gy⟩,qaO,TF,Hg,qaJ⟩,⟨PN,P0,TF,Hf⟩,⟨PN,P0,TF,Hf,qaG,hn_,ht_,qaK⟩⟩
 have R3:XcT K qD:=⟨⟨⟨qfC,qj7,qh6,qeq,Qm,qfN,qcz,qei,qbH,qeH,qeY,qe6,qfe,qfm,qfu,qgE,qgM⟩,qnw,Eu,qdD,qmI⟩,⟨qc5,qdd,Eu,qdl⟩,⟨qc5,qdd,Eu,qdl,qmg,hn_,ht_,qmQ⟩⟩
 have Rp:XcT K qT:=⟨⟨⟨qjX,qoQ,qnO,qiA,QM,qkm,qf1,qil,qeE,qiQ,qje,qjn,qjw,qjF,qjO,qk9,qlx⟩,qro,Ax,qg0,qqh⟩,⟨qgj,qgs,Ax,qgB⟩,⟨qgj,qgs,Ax,qgB,qpI,hn_,ht_,qqq⟩⟩
 have R9:XcT K qJ:=⟨⟨⟨qfI,qkd,qic,qew,Qt,qfT,qcF,qeo,qbN,qeN,qe4,qfc,qfk,qfs,qfA,qgK,qgS⟩,qnC,Dd,qdJ,qmO⟩,⟨qdb,qdj,Dd,qdr⟩,⟨qdb,qdj,Dd,qdr,qmm,hn_,ht_,qmW⟩⟩
 have XR:XcT K qw:=⟨⟨⟨qck,qfL,qeg,qbE,Qe,qcx,qam,qbw,Im,qbS,qb3,qb6,qb9,qcc,qcf,qdv,qdA⟩,qlC,Gu,qaE,qk1⟩,⟨qas,qav,Gu,qay⟩,⟨qas,qav,Gu,qay,qkC,hn_,ht_,qld⟩⟩
 have Rk:XcT K qP:=⟨⟨⟨qjR,qoK,qnI,qiu,QC,qkg,qfV,qif,qey,qiK,qi8,qjh,qjq,qjz,qjI,qk3,qlq⟩,qri,Ak,qgU,qqb⟩,⟨qgd,qgm,Ak,qgv⟩,⟨qgd,qgm,Ak,qgv,qpC,hn_,ht_,qqk⟩⟩
 have R5:XcT K qG:=⟨⟨⟨qfE,qj9,qh8,qes,Qo,qfP,qcB,qek,qbJ,qeJ,qe0,qe8,qfg,qfo,qfw,qgG,qgO⟩,qny,Ey,qdF,qmK⟩,⟨qc7,qdf,Ey,qdn⟩,⟨qc7,qdf,Ey,qdn,qmi,hn_,ht_,qmS⟩⟩
 have RX:XcT K qC:=⟨⟨⟨qfB,qj6,qh5,qep,Ql,qfM,qcy,qeh,qbG,qeG,qeX,qe5,qfd,qfl,qft,qgD,qgL⟩,qnv,Et,qdC,qmH⟩,⟨qc4,qdc,Et,qdk⟩,⟨qc4,qdc,Et,qdk,qmf,hn_,ht_,qmP⟩⟩
 have XM:XcT K qp:=⟨⟨⟨qci,qfJ,qee,qbC,Qa,qcv,qak,qbt,Ik,qbQ,qb1,qb4,qb7,qca,qcd,qdt,qdy⟩,qlA,Gp,qaC,qkZ⟩,⟨qaq,qat,Gp,qaw⟩,⟨qaq,qat,Gp,qaw,qkA,hn_,ht_,qlb⟩⟩
 have R4:XcT K qF:=⟨⟨⟨qfD,qj8,qh7,qer,Qn,qfO,qcA,qej,qbI,qeI,qeZ,qe7,qff,qfn,qfv,qgF,qgN⟩,qnx,Ew,qdE,qmJ⟩,⟨qc6,qde,Ew,qdm⟩,⟨qc6,qde,Ew,qdm,qmh,hn_,ht_,qmR⟩⟩
 have G9:XcT K Qx:=⟨⟨⟨qoF,qsr,qrK,qnZ,QW,qoT,qkp,qnU,qiD,qn5,qog,qol,qoq,qov,qoA,qo3,qo8⟩,qtW,qc0,qlE,qs4⟩,⟨qkK,qkP,qc0,qkU⟩,⟨qkK,qkP,qc0,qkU,qsG,hn_,ht_,qta⟩⟩
 have Rm:XcT K qQ:=⟨⟨⟨qjS,qoL,qnJ,qiv,QD,qkh,qfW,qig,qez,qiL,qi9,qji,qjr,qjA,qjJ,qk4,qlr⟩,qrj,Am,qgV,qqc⟩,⟨qge,qgn,Am,qgw⟩,⟨qge,qgn,Am,qgw,qpD,hn_,ht_,qql⟩⟩
 have Mw:XcT K Qu:=⟨⟨⟨qoE,qsq,qrJ,qnY,QV,qoS,qko,qnT,qiC,qn4,qof,qok,qop,qou,qoz,qo2,qo7⟩,qtV,qcZ,qlD,qs3⟩,⟨qkJ,qkO,qcZ,qkT⟩,⟨qkJ,qkO,qcZ,qkT,qsF,hn_,ht_,qs9⟩⟩
 have Ro:XcT K qR:=⟨⟨⟨qjU,qoN,qnL,qix,QJ,qkj,qfY,qii,qeB,qiN,qjb,qjk,qjt,qjC,qjL,qk6,qlu⟩,qrl,Aq,qgX,qqe⟩,⟨qgg,qgp,Aq,qgy⟩,⟨qgg,qgp,Aq,qgy,qpF,hn_,ht_,qqn⟩⟩
 have Nz:XcT K Qi:=⟨⟨⟨qjY,qoR,qnP,qiB,QS,qkn,qf2,qim,qeF,qiR,qjf,qjo,qjx,qjG,qjP,qla,qly⟩,qrp,Ay,qg1,qqi⟩,⟨qgk,qgt,Ay,qgC⟩,⟨qgk,qgt,Ay,qgC,qpJ,hn_,ht_,qqr⟩⟩
 have Xl:XcT K qL:=⟨⟨⟨qjW,qoP,qnN,qiz,QL,qkl,qf0,qik,qeD,qiP,qjd,qjm,qjv,qjE,qjN,qk8,qlw⟩,qrn,Av,qgZ,qqg⟩,⟨qgi,qgr,Av,qgA⟩,⟨qgi,qgr,Av,qgA,qpH,hn_,ht_,qqp⟩⟩
 have XQ:XcT K qu:=⟨⟨⟨qcj,qfK,qef,qbD,Qc,qcw,qal,qbu,Il,qbR,qb2,qb5,qb8,qcb,qce,qdu,qdz⟩,qlB,Gq,qaD,qk0⟩,⟨qar,qau,Gq,qax⟩,⟨qar,qau,Gq,qax,qkB,hn_,ht_,qlc⟩⟩
 have Nv:XcT K Qg:=⟨⟨⟨qjT,qoM,qnK,qiw,QG,qki,qfX,qih,qeA,qiM,qja,qjj,qjs,qjB,qjK,qk5,qls⟩,qrk,Ao,qgW,qqd⟩,⟨qgf,qgo,Ao,qgx⟩,⟨qgf,qgo,Ao,qgx,qpE,hn_,ht_,qqm⟩⟩
 have Mz:XcT K Qv:=⟨⟨⟨qoG,qss,qrL,qn0,QX,qoU,qkq,qnV,qiE,qn6,qoh,qom,qor,qow,qoB,qo4,qo9⟩,qtX,qc1,qlF,qs5⟩,⟨qkL,qkQ,qc1,qkV⟩,⟨qkL,qkQ,qc1,qkV,qsH,hn_,ht_,qtb⟩⟩
 have R8:XcT K qI:=⟨⟨⟨qfH,qkc,qib,qev,Qs,qfS,qcE,qen,qbM,qeM,qe3,qfb,qfj,qfr,qfz,qgJ,qgR⟩,qnB,Dc,qdI,qmN⟩,⟨qda,qdi,Dc,qdq⟩,⟨qda,qdi,Dc,qdq,qml,hn_,ht_,qmV⟩⟩
 have Gm:XcT K QT:=⟨⟨⟨qsp,qvv,qvp,qr3,Q7,qsv,qoX,qrR,qn3,qr4,qsj,qsk,qsl,qsm,qsn,qs8,qtL⟩,qvj,qhR,qpc,quZ⟩,⟨qoZ,qo0,qhR,qo1⟩,⟨qoZ,qo0,qhR,qo1,quR,hn_,ht_,qu0⟩⟩
 have Fb:XcT K Qy:=⟨⟨⟨qoH,qst,qrM,qn1,QZ,qoV,qkr,qnW,qiF,qn7,qoi,qon,qos,qox,qoC,qo5,qpa⟩,qtY,qc2,qlG,qs6⟩,⟨qkM,qkR,qc2,qkW⟩,⟨qkM,qkR,qc2,qkW,qsI,hn_,ht_,qtc⟩⟩
 have T7:XcT K qK:=⟨⟨⟨qfG,qkb,qia,qeu,Qq,qfR,qcD,qem,qbL,qeL,qe2,qfa,qfi,qfq,qfy,qgI,qgQ⟩,qnA,EY,qdH,qmM⟩,⟨qc9,qdh,EY,qdp⟩,⟨qc9,qdh,EY,qdp,qmk,hn_,ht_,qmU⟩⟩
 have R7:XcT K qH:=⟨⟨⟨qfF,qka,qh9,qet,Qp,qfQ,qcC,qel,qbK,qeK,qe1,qe9,qfh,qfp,qfx,qgH,qgP⟩,qnz,Ez,qdG,qmL⟩,⟨qc8,qdg,Ez,qdo⟩,⟨qc8,qdg,Ez,qdo,qmj,hn_,ht_,qmT⟩⟩
 have Ny:XcT K Qh:=⟨⟨⟨qjV,qoO,qnM,qiy,QK,qkk,qfZ,qij,qeC,qiO,qjc,qjl,qju,qjD,qjM,qk7,qlv⟩,qrm,Ar,qgY,qqf⟩,⟨qgh,qgq,Ar,qgz⟩,⟨qgh,qgq,Ar,qgz,qpG,hn_,ht_,qqo⟩⟩
 have R6:XcT K ql:=⟨⟨⟨qag,qcs,qbi,Ih,qN,qai,Ce,Ie,Dm,Io,Iz,IV,qaa,qac,qae,qaz,qaA⟩,qh0,Pb,BJ,qhT⟩,⟨CP,CT,Pb,CW⟩,⟨CP,CT,Pb,CW,qhI,hn_,ht_,qhV⟩⟩
 have Nh:=fun_mk (st:=Uc) qm0 qm8 qng
 have GX:=Nh.binds (ps:=["self","at"]) fun _ _ _ _ _ _ us hl=>match us,hl with | [_,_],_=>rfl
 have HX:=fun_mk (st:=Ud) qqA qqJ qqS
 have Cq:=HX.binds (ps:=["self","table"]) fun _ _ _ _ _ _ us hl=>match us,hl with | [_,_],_=>rfl
 have Nk:=fun_mk (st:=Ue) qm1 qm9 qnh
 have GZ:=Nk.binds (ps:=["self","at"]) fun _ _ _ _ _ _ us hl=>match us,hl with | [_,_],_=>rfl
 have Nm:=fun_mk (st:=Ug) qm2 qna qni
 have G3:=Nm.binds (ps:=["self","name"]) fun _ _ _ _ _ _ us hl=>match us,hl with | [_,_],_=>rfl
 have XJ:=fun_mk (st:=Uh) qaL qaM qaN
 have Sv:=XJ.binds (ps:=["self","at"]) fun _ _ _ _ _ _ us hl=>match us,hl with | [_,_],_=>rfl
 have HY:=fun_mk (st:=Ui) qqB qqK qqT
 have Cr:=HY.binds (ps:=["self","table","at"]) fun _ _ _ _ _ _ us hl=>match us,hl with | [_,_,_],_=>rfl
 have Mf:=fun_mk (st:=Uj) qlf qli qll
 have N7:=Mf.binds (ps:=["self","at"]) fun _ _ _ _ _ _ us hl=>match us,hl with | [_,_],_=>rfl
 have qcG:=fun_mk (st:=Uk) qu6 qu7 qu8
 have qhH:=qcG.binds (ps:=["self","limit"]) fun _ _ _ _ _ _ us hl=>match us,hl with | [_,_],_=>rfl
 have Ge:=fun_mk (st:=Ul) qqC qqL qqU
 have Cu:=Ge.binds (ps:=["self","place","loop"]) fun _ _ _ _ _ _ us hl=>match us,hl with | [_,_,_],_=>rfl
 have Ci:=fun_mk (st:=Um) qtn qts qtx
 have qa2:=Ci.binds (ps:=["self","at"]) fun _ _ _ _ _ _ us hl=>match us,hl with | [_,_],_=>rfl
 have Np:=fun_mk (st:=Uo) qm3 qnb qnj
 have G4:=Np.binds (ps:=["self","name"]) fun _ _ _ _ _ _ us hl=>match us,hl with | [_,_],_=>rfl
 have Tv:=fun_mk (st:=Uq) qhX qhY qhZ
 have Mv:=Tv.binds (ps:=["self"]) fun _ _ _ _ _ _ us hl=>match us,hl with | [_],_=>rfl
 have Nq:=fun_mk (st:=Ur) qm4 qnc qnk
 have G5:=Nq.binds (ps:=["self","many"]) fun _ _ _ _ _ _ us hl=>match us,hl with | [_,_],_=>rfl
 have Gf:=fun_mk (st:=Us) qqD qqM qqV
 have Cv:=Gf.binds (ps:=["self"]) fun _ _ _ _ _ _ us hl=>match us,hl with | [_],_=>rfl
 have Mg:=fun_mk (st:=Ut) qlg qlj qlm
 have N8:=Mg.binds (ps:=["self","number"]) fun _ _ _ _ _ _ us hl=>match us,hl with | [_,_],_=>rfl
 have Gg:=fun_mk (st:=Uu) qqE qqN qqW
 have Cy:=Gg.binds (ps:=["self","stream","index"]) fun _ _ _ _ _ _ us hl=>match us,hl with | [_,_,_],_=>rfl
 have Gh:=fun_mk (st:=Uv) qqF qqO qqX
 have Cz:=Gh.binds (ps:=["self"]) fun _ _ _ _ _ _ us hl=>match us,hl with | [_],_=>rfl
 have Cj:=fun_mk (st:=Uw) qto qtt qty
 have qa3:=Cj.binds (ps:=["self"]) fun _ _ _ _ _ _ us hl=>match us,hl with | [_],_=>rfl
 have Mh:=fun_mk (st:=Ux) qlh qlk qln
 have Pa:=Mh.binds (ps:=["self","name"]) fun _ _ _ _ _ _ us hl=>match us,hl with | [_,_],_=>rfl
 have Nr:=fun_mk (st:=Uy) qm5 qnd qnl
 have G6:=Nr.binds (ps:=["self"]) fun _ _ _ _ _ _ us hl=>match us,hl with | [_],_=>rfl
 have Gi:=fun_mk (st:=Uz) qqG qqP qqY
 have CG:=Gi.binds (ps:=["self","stream","index","word"]) fun _ _ _ _ _ _ us hl=>match us,hl with | [_,_,_,_],_=>rfl
 have Gj:=fun_mk (st:=UG) qqH qqQ qqZ
 have CJ:=Gj.binds (ps:=["self","table","column"]) fun _ _ _ _ _ _ us hl=>match us,hl with | [_,_,_],_=>rfl
 have Nt:=fun_mk (st:=UJ) qm6 qne qnm
 have G7:=Nt.binds (ps:=["self","limit"]) fun _ _ _ _ _ _ us hl=>match us,hl with | [_,_],_=>rfl
 have Ck:=fun_mk (st:=UL) qtp qtu qtz
 have qa4:=Ck.binds (ps:=["self","table"]) fun _ _ _ _ _ _ us hl=>match us,hl with | [_,_],_=>rfl
 have Cm:=fun_mk (st:=UT) qtq qtv qtA
 have qa5:=Cm.binds (ps:=["self"]) fun _ _ _ _ _ _ us hl=>match us,hl with | [_],_=>rfl
 have Nu:=fun_mk (st:=UV) qm7 qnf qnn
 have G8:=Nu.binds (ps:=["self","name"]) fun _ _ _ _ _ _ us hl=>match us,hl with | [_,_],_=>rfl
 have Gk:=fun_mk (st:=UW) qqI qqR qq0
 have CK:=Gk.binds (ps:=["self"]) fun _ _ _ _ _ _ us hl=>match us,hl with | [_],_=>rfl
 have Cp:=fun_mk (st:=U0) qtr qtw qtB
 have qa6:=Cp.binds (ps:=["self","place"]) fun _ _ _ _ _ _ us hl=>match us,hl with | [_,_],_=>rfl
 have XA:qub K mg [("PlanError",qj,qO),("Wrong",Qw,Q5),("BadKey",qY,Qz),("BadReference",qd,qm),("BadMade",qD,Qm),("Ringed",qT,QM),("Unknown",qJ,Qt),("NotFixed",qw,Qe),("BadRow",qP,QC),("Missing",qG,Qo),("BadItem",qC,Ql),("BadShown",qp,Qa),("BadMark",qF,Qn),("NoUse",Qx,QW),("Hidden",qQ,QD),("Loose",Qu,QV),("NoSite",qR,QJ),("Unlike",Qi,QS),("Parted",qL,QL),("NoNumber",qu,Qc),("NoMove",Qg,QG),("Twice",Qv,QX),("TooMany",qI,Qs),("Full",QT,Q7),("Unfit",Qy,QZ),("Nothing",qK,Qq),("NoEntry",qH,Qp),("NoText",Qh,QK),("NoCommand",ql,qN)]:=⟨fcons ⟨PySem.W.mg_of X G qbq,Mx,ZD Gx Pu,ZQ qaB⟩ (fcons ⟨PySem.W.mg_of X G qlS,MF,ZD qo6 qlH,ZQ qpb⟩ (fcons ⟨PySem.W.mg_of X G qg4,Tw,ZD qk2 qgT,ZQ qlp⟩ (fcons ⟨PySem.W.mg_of X G MP,Xb,ZD Gv Hg,ZQ Gy⟩ (fcons ⟨PySem.W.mg_of X G qbl,R3,ZD qgE qdD,ZQ qgM⟩ (fcons ⟨PySem.W.mg_of X G qaS,Rp,ZD qk9 qg0,ZQ qlx⟩ (fcons ⟨PySem.W.mg_of X G qbs,R9,ZD qgK qdJ,ZQ qgS⟩ (fcons ⟨PySem.W.mg_of X G BP,XR,ZD qdv qaE,ZQ qdA⟩ (fcons ⟨PySem.W.mg_of X G qaP,Rk,ZD qk3 qgU,ZQ qlq⟩ (fcons ⟨PySem.W.mg_of X G qbn,R5,ZD qgG qdF,ZQ qgO⟩ (fcons ⟨PySem.W.mg_of X G qbk,RX,ZD qgD qdC,ZQ qgL⟩ (fcons ⟨PySem.W.mg_of X G BK,XM,ZD qdt qaC,ZQ qdy⟩ (fcons ⟨PySem.W.mg_of X G qbm,R4,ZD qgF qdE,ZQ qgN⟩ (fcons ⟨PySem.W.mg_of X G qrP,G9,ZD qo3 qlE,ZQ qo8⟩ (fcons ⟨PySem.W.mg_of X G qaQ,Rm,ZD qk4 qgV,ZQ qlr⟩ (fcons ⟨PySem.W.mg_of X G qlQ,Mw,ZD qo2 qlD,ZQ qo7⟩ (fcons ⟨PySem.W.mg_of X G qaR,Ro,ZD qk6 qgX,ZQ qlu⟩ (fcons ⟨PySem.W.mg_of X G qnS,Nz,ZD qla qg1,ZQ qly⟩ (fcons ⟨PySem.W.mg_of X G Dg,Xl,ZD qk8 qgZ,ZQ qlw⟩ (fcons ⟨PySem.W.mg_of X G BL,XQ,ZD qdu qaD,ZQ qdz⟩ (fcons ⟨PySem.W.mg_of X G qnQ,Nv,ZD qk5 qgW,ZQ qls⟩ (fcons ⟨PySem.W.mg_of X G qlR,Mz,ZD qo4 qlF,ZQ qo9⟩ (fcons ⟨PySem.W.mg_of X G qbr,R8,ZD qgJ qdI,ZQ qgR⟩ (fcons ⟨PySem.W.mg_of X G qrO,Gm,ZD qs8 qpc,ZQ qtL⟩ (fcons ⟨PySem.W.mg_of X G qrQ,Fb,ZD qo5 qlG,ZQ qpa⟩ (fcons ⟨PySem.W.mg_of X G qid,T7,ZD qgI qdH,ZQ qgQ⟩ (fcons ⟨PySem.W.mg_of X G qbp,R7,ZD qgH qdG,ZQ qgP⟩ (fcons ⟨PySem.W.mg_of X G qnR,Ny,ZD qk7 qgY,ZQ qlv⟩ (fcons ⟨PySem.W.mg_of X G qbo,R6,ZD qaz BJ,ZQ qaA⟩ (fun q hq=>(by cases hq))))))))))))))))))))))))))))))⟩
 have T:Txt w K mg ⟨GD,_,NT,_,Mr,_,Ms,_,TY,_,Tg,_,T5,_,fa,_,qj,Qw,qY,qd,qD,qT,qJ,qw,qP,qG,qC,qp,qF,Qx,qQ,Qu,qR,Qi,qL,qu,Qg,Qv,qI,QT,Qy,qK,qH,Qh,ql,Xu,_,Rq,_,Xv,_,Xw,_,Q8,_,Rr,_,Xh,_,Nb,_,Ru,_,Tn,_,Xx,_,Xc,_,Xy,_,Rv,_,Xi,_,Rw,_,Rx,_,Tp,_,Xj,_,Xz,_,Ry,_,Rz,_,XC,_,Tq,_,Tr,_,XD,_,RB,_,Tt,_⟩ :=
  {RQ:=RQ,
   T6:=T6,
   Xf:=Xf,
   Rg:=Rg,
   Rh:=Rh,
   RN:=RN,
   RW:=RW,
   qrA:=qrA,
   Ml:=Ml,
   Gz:=Gz,
   Ri:=Ri,
   TV:=TV,
   TX:=TX,
   T9:=T9,
   Mp:=Mp,
   qvD:=qvD,
   qU:=qU,
   qW:=qW,
   qX:=qX,
   Mq:=⟨_,_,_,_,PySem.F.excBase_ValueError,qis,qir⟩,
   ql1:=fun C hC=>(by cases hC),
   qiT:=fun C hC=>(by cases hC),
   qhc:=fun C hC=>(by cases hC),
   qhd:=fun C hC=>(by cases hC),
   qr6:=fun C hC=>(by cases hC),
   qr7:=fun C hC=>(by cases hC),
   qbT:=fun C hC=>(by cases hC),
   qiU:=fun C hC=>(by cases hC),
   qhe:=fun C hC=>(by cases hC),
   qbU:=fun C hC=>(by cases hC),
   Dr:=fun C hC=>(by cases hC),
   qr8:=fun C hC=>(by cases hC),
   ql2:=fcons ⟨_,PySem.W.mg_of X G MP,Xb,Xd⟩ (fcons ⟨_,PySem.W.mg_of X G qbl,R3,SJ⟩ (fcons ⟨_,PySem.W.mg_of X G qaP,Rk,Tz⟩ (fcons ⟨_,PySem.W.mg_of X G qbk,RX,Sy⟩ (fcons ⟨_,PySem.W.mg_of X G BK,XM,RD⟩ (fcons ⟨_,PySem.W.mg_of X G qlQ,Mw,Mj⟩ (fun C hC=>(by cases hC))))))),
   qiV:=fcons ⟨_,PySem.W.mg_of X G qaS,Rp,Xp⟩ (fun C hC=>(by cases hC)),
   qhf:=fcons ⟨_,PySem.W.mg_of X G qaR,Ro,X8⟩ (fcons ⟨_,PySem.W.mg_of X G Dg,Xl,Ra⟩ (fun C hC=>(by cases hC))),
   qhg:=fcons ⟨_,PySem.W.mg_of X G qbr,R8,Xq⟩ (fcons ⟨_,PySem.W.mg_of X G qrO,Gm,SM⟩ (fun C hC=>(by cases hC))),
   qr9:=fcons ⟨_,PySem.W.mg_of X G qaQ,Rm,RJ⟩ (fun C hC=>(by cases hC)),
   qsa:=fcons ⟨_,PySem.W.mg_of X G qbp,R7,X7⟩ (fun C hC=>(by cases hC)),
   qbV:=fcons ⟨_,PySem.W.mg_of X G qbs,R9,Rf⟩ (fcons ⟨_,PySem.W.mg_of X G BP,XR,Xn⟩ (fcons ⟨_,PySem.W.mg_of X G qbn,R5,X6⟩ (fcons ⟨_,PySem.W.mg_of X G qbm,R4,X3⟩ (fun C hC=>(by cases hC))))),
   qiW:=fcons ⟨_,PySem.W.mg_of X G BL,XQ,Xe⟩ (fun C hC=>(by cases hC)),
   qhh:=fcons ⟨_,PySem.W.mg_of X G qlS,MF,RM⟩ (fcons ⟨_,PySem.W.mg_of X G qaQ,Rm,X5⟩ (fun C hC=>(by cases hC))),
   qbW:=fcons ⟨_,PySem.W.mg_of X G qaR,Ro,Xm⟩ (fcons ⟨_,PySem.W.mg_of X G Dg,Xl,Xo⟩ (fun C hC=>(by cases hC))),
   Ds:=fcons ⟨_,PySem.W.mg_of X G qg4,Tw,XS⟩ (fcons ⟨_,PySem.W.mg_of X G qaS,Rp,Rb⟩ (fcons ⟨_,PySem.W.mg_of X G qaP,Rk,X4⟩ (fcons ⟨_,PySem.W.mg_of X G qlR,Mz,RL⟩ (fun C hC=>(by cases hC))))),
   qsb:=fcons ⟨_,PySem.W.mg_of X G Dg,Xl,RK⟩ (fun C hC=>(by cases hC)),
   Dt:=PySem.W.mg_of X G qbk,
   qaT:=PySem.W.mg_of X G qg4,
   Du:=PySem.W.mg_of X G qbl,
   Dy:=PySem.W.mg_of X G qbm,
   Tj:=PySem.W.mg_of X G MP,
   qaU:=PySem.W.mg_of X G qaP,
   GF:=PySem.W.mg_of X G BK,
   qn9:=PySem.W.mg_of X G qrO,
   qaV:=PySem.W.mg_of X G qaQ,
   qhi:=PySem.W.mg_of X G qlQ,
   Dz:=PySem.W.mg_of X G qbn,
   N6:=PySem.W.mg_of X G qbo,
   DK:=PySem.W.mg_of X G qbp,
   qaW:=PySem.W.mg_of X G qnQ,
   GJ:=PySem.W.mg_of X G BL,
   qaX:=PySem.W.mg_of X G qaR,
   qaY:=PySem.W.mg_of X G qnR,
   qhj:=PySem.W.mg_of X G qrP,
   GP:=PySem.W.mg_of X G BP,
   DN:=PySem.W.mg_of X G qid,
   qaZ:=PySem.W.mg_of X G Dg,
   qZ:=PySem.W.mg_of X G qbq,
   qa0:=PySem.W.mg_of X G qaS,
   DP:=PySem.W.mg_of X G qbr,
   qhk:=PySem.W.mg_of X G qlR,
   qhl:=PySem.W.mg_of X G qrQ,
   DQ:=PySem.W.mg_of X G qbs,
   qa1:=PySem.W.mg_of X G qnS,
   qhm:=PySem.W.mg_of X G qlS,
   Ir:=PySem.W.mg_of X G qhv,
   qeO:=PySem.W.mg_of X G ql6,
   M8:=PySem.W.mg_of X G qcn,
   DR:=PySem.W.mg_of X G qd1,
   DY:=PySem.W.mg_of X G qd2,
   Ek:=PySem.W.mg_of X G qj1,
   Iu:=PySem.W.mg_of X G qhw,
   qwM:=PySem.W.mg_of X G qvu,
   iv_:=Zhe XA,
   qeP:=ZS XA (List.mem_of_getElem? (i:=10) rfl) qph,
   qiX:=ZS XA (List.mem_of_getElem? (i:=2) rfl) qrT,
   qeQ:=ZS XA (List.mem_of_getElem? (i:=4) rfl) qpi,
   qeR:=ZS XA (List.mem_of_getElem? (i:=12) rfl) qpj,
   Ht:=ZS XA (List.mem_of_getElem? (i:=3) rfl) qby,
   qiY:=ZS XA (List.mem_of_getElem? (i:=8) rfl) qrU,
   qbX:=ZS XA (List.mem_of_getElem? (i:=11) rfl) qlU,
   qsi:=ZS XA (List.mem_of_getElem? (i:=23) rfl) qvC,
   qiZ:=ZS XA (List.mem_of_getElem? (i:=14) rfl) qrV,
   qoa:=ZS XA (List.mem_of_getElem? (i:=15) rfl) qum,
   qeS:=ZS XA (List.mem_of_getElem? (i:=9) rfl) qpk,
   Iv:=ZS XA (List.mem_of_getElem? (i:=28) rfl) qio,
   qeT:=ZS XA (List.mem_of_getElem? (i:=26) rfl) qpl,
   qi0:=ZS XA (List.mem_of_getElem? (i:=20) rfl) qrW,
   qbY:=ZS XA (List.mem_of_getElem? (i:=19) rfl) qlV,
   qi1:=ZS XA (List.mem_of_getElem? (i:=16) rfl) qrX,
   qi2:=ZS XA (List.mem_of_getElem? (i:=27) rfl) qrY,
   qob:=ZS XA (List.mem_of_getElem? (i:=13) rfl) qun,
   qbZ:=ZS XA (List.mem_of_getElem? (i:=7) rfl) qlW,
   qeU:=ZS XA (List.mem_of_getElem? (i:=25) rfl) qpm,
   qi3:=ZS XA (List.mem_of_getElem? (i:=18) rfl) qrZ,
   Iw:=Zhi XA ⟨_,ZD Gx Pu⟩ qip,
   qi4:=ZS XA (List.mem_of_getElem? (i:=5) rfl) qr0,
   qeV:=ZS XA (List.mem_of_getElem? (i:=22) rfl) qpn,
   qoc:=ZS XA (List.mem_of_getElem? (i:=21) rfl) qup,
   qod:=ZS XA (List.mem_of_getElem? (i:=24) rfl) quq,
   qeW:=ZS XA (List.mem_of_getElem? (i:=6) rfl) qpo,
   qi5:=ZS XA (List.mem_of_getElem? (i:=17) rfl) qr1,
   qoe:=ZS XA (List.mem_of_getElem? (i:=1) rfl) qur,
   HF:=PySem.W.mg_none_of X G qlJ,
   qwq:=PySem.W.mg_none_of X G qwR,
   qvs:=PySem.W.mg_none_of X G qwD,
   qcg:=PySem.W.mg_none_of X G qnG,
   qdW:=PySem.W.mg_none_of X G qwS,
   qM:=PySem.W.mg_none_of X G qlK,
   qwr:=PySem.W.mg_none_of X G qwT,
   qvt:=PySem.W.mg_none_of X G qwE,
   qch:=PySem.W.mg_none_of X G qv7,
   qso:=PySem.W.mg_none_of X G qwF,
   Nh:=Nh,
   HX:=HX,
   Nk:=Nk,
   Nm:=Nm,
   XJ:=XJ,
   HY:=HY,
   Mf:=Mf,
   qcG:=qcG,
   Ge:=Ge,
   Ci:=Ci,
   Np:=Np,
   Tv:=Tv,
   Nq:=Nq,
   Gf:=Gf,
   Mg:=Mg,
   Gg:=Gg,
   Gh:=Gh,
   Cj:=Cj,
   Mh:=Mh,
   Nr:=Nr,
   Gi:=Gi,
   Gj:=Gj,
   Nt:=Nt,
   Ck:=Ck,
   Cm:=Cm,
   Nu:=Nu,
   Gk:=Gk,
   Cp:=Cp,
   GX:=GX,
   Cq:=Cq,
   GZ:=GZ,
   G3:=G3,
   Sv:=Sv,
   Cr:=Cr,
   N7:=N7,
   qhH:=qhH,
   Cu:=Cu,
   qa2:=qa2,
   G4:=G4,
   Mv:=Mv,
   G5:=G5,
   Cv:=Cv,
   N8:=N8,
   Cy:=Cy,
   Cz:=Cz,
   qa3:=qa3,
   Pa:=Pa,
   G6:=G6,
   CG:=CG,
   CJ:=CJ,
   G7:=G7,
   qa4:=qa4,
   qa5:=qa5,
   G8:=G8,
   CK:=CK,
   qa6:=qa6,
   RX:=RX,
   Tw:=Tw,
   R3:=R3,
   R4:=R4,
   Xb:=Xb,
   Rk:=Rk,
   XM:=XM,
   Gm:=Gm,
   Rm:=Rm,
   Mw:=Mw,
   R5:=R5,
   R6:=R6,
   R7:=R7,
   Nv:=Nv,
   XQ:=XQ,
   Ro:=Ro,
   Ny:=Ny,
   G9:=G9,
   XR:=XR,
   T7:=T7,
   Xl:=Xl,
   Mx:=Mx,
   Rp:=Rp,
   R8:=R8,
   Mz:=Mz,
   Fb:=Fb,
   R9:=R9,
   Nz:=Nz,
   MF:=MF,
   Fd:=Fd,
   Ba:=Ba,
   Fe:=Fe,
   Fg:=Fg,
   Sw:=Sw,
   Bb:=Bb,
   Ph:=Ph,
   qhS:=qhS,
   Bc:=Bc,
   qa7:=qa7,
   Fj:=Fj,
   MJ:=MJ,
   Fo:=Fo,
   Bf:=Bf,
   Pj:=Pj,
   Bg:=Bg,
   Bj:=Bj,
   qa8:=qa8,
   Pk:=Pk,
   Fp:=Fp,
   Bl:=Bl,
   Bm:=Bm,
   Fq:=Fq,
   qa9:=qa9,
   qba:=qba,
   Ft:=Ft,
   Bo:=Bo,
   qbb:=qbb,
   Sy:=Sy,
   XS:=XS,
   SJ:=SJ,
   X3:=X3,
   Xd:=Xd,
   Tz:=Tz,
   X4:=X4,
   RD:=RD,
   SM:=SM,
   RJ:=RJ,
   X5:=X5,
   Mj:=Mj,
   X6:=X6,
   X7:=X7,
   Xe:=Xe,
   X8:=X8,
   Xm:=Xm,
   Xn:=Xn,
   Ra:=Ra,
   Xo:=Xo,
   RK:=RK,
   Xp:=Xp,
   Rb:=Rb,
   Xq:=Xq,
   RL:=RL,
   Rf:=Rf,
   RM:=RM,
   Fv:=Fv,
   Bp:=Bp,
   Fw:=Fw,
   Fx:=Fx,
   SN:=SN,
   Bq:=Bq,
   Pn:=Pn,
   qh2:=qh2,
   Br:=Br,
   qbc:=qbc,
   Fy:=Fy,
   MK:=MK,
   FJ:=FJ,
   Bs:=Bs,
   Pq:=Pq,
   Bt:=Bt,
   Bu:=Bu,
   qbd:=qbd,
   Pr:=Pr,
   FQ:=FQ,
   Bv:=Bv,
   Bw:=Bw,
   FT:=FT,
   qbe:=qbe,
   qbf:=qbf,
   FZ:=FZ,
   Bx:=Bx,
   qbg:=qbg }
 exact ⟨_,fun s v => .of_eq rfl,fun base _ _=>Zh2 T⟩
end K10
namespace K10
open PySem PySem.Spec PyProof.Rows L2 L2.Dn
local macro_rules | `(tactic| walk_at "ev") => `(tactic| try simp only [L2.Dn.lcW, L2.Dn.qpq, L2.Dn.qkt, L2.Dn.qpp, L2.Dn.qwU, L2.Dn.qrS, Zi, ifS, Zm, Yk, Yn, Y8, retS, Vh, ZF, Z3, Y0, Zf, Za, Zb, cE, JM, Za4, orT, tvE, ifE, U3, Zo, Ys, Wt, dmE, unE, slE, noO, someO, chE, ZbA, Zch, Zci, Jh, Zbn, YD, Vv, Jy, nilG, Zcc, Zcb, lcE, Zr, Yo, Jx, Z5, Jj, Yi, JT, Vs, WD, List.set_cons_zero, List.set_cons_succ, Yp, KH, JB, Zbt, Zbu, ZbI, Zbo, KD, Zbq, Zbr, Zbl, ev_call, Zbm, U6, L2.Dn.ite_tt, L2.Dn.ite_ff, U5, WF, Vn, Ws, Wi, Wh, Jo, Wj, ZbY, JH, ZbR, Bool.false_eq_true, if_false, if_true, Zb7, Zb8, Zb6, Zb5, Zb4, Zb3, true_and, List.length_cons, List.length_nil, ZaU, Bool.not_true, Bool.not_false, decide_true, decide_false, and_self, and_true, reduceIte, ne_eq, not_true_eq_false, not_false_eq_true, mk0, mk1, mk2, mk3, mk4, ml0, ml1, ml2, ml3, ml4, ml5, ml6, ZcX, ZcY, ZbK, ZbJ, YT, Nat.zero_le, sn1, sn2, sn3, sn4, sn5, sn6, sn7, sn8, sn9, Zcq, Zcr, Zcs, Zct, Zcu, Zcv, Zcw, Zcx, Zcy, Zcz, ZcA, ZcB, ZcC, ZcD, ZcE, Zbc, Zbd, Zb0, ZbZ, Za5, Za6, Za7, Zcl, Zcm, Zcn, List.nil_append, List.cons_append, ZbC, Nat.zero_add, List.map_cons, List.map_nil, Nat.reduceAdd, Nat.reduceEqDiff, Zbs, Zbp, ZaS, sz1, sz2, sz3, sz4, sz5, sz6, sz7, sz8, sz9, ZcG, ZcH, ZcI, ZcJ, ZcK, ZcL, ZcM, ZcN, ZcO, ZcP, ZcQ, ZcR, ZcS, ZcT, ZcU])
local macro_rules | `(tactic| walk_at "evs") => `(tactic| try simp only [*, L2.Dn.lcW, L2.Dn.qpq, L2.Dn.qkt, L2.Dn.qpp, L2.Dn.qwU, L2.Dn.qrS, Zi, ifS, Zm, Yk, Yn, Y8, retS, Vh, ZF, Z3, Y0, Zf, Za, Zb, cE, JM, Za4, orT, tvE, ifE, U3, Zo, Ys, Wt, dmE, unE, slE, noO, someO, chE, ZbA, Zch, Zci, Jh, Zbn, YD, Vv, Jy, nilG, Zcc, Zcb, lcE, Zr, Yo, Jx, Z5, Jj, Yi, JT, Vs, WD, List.set_cons_zero, List.set_cons_succ, Yp, KH, JB, Zbt, Zbu, ZbI, Zbo, KD, Zbq, Zbr, Zbl, ev_call, Zbm, U6, L2.Dn.ite_tt, L2.Dn.ite_ff, U5, WF, Vn, Ws, Wi, Wh, Jo, Wj, ZbY, JH, ZbR, Bool.false_eq_true, if_false, if_true, Zb7, Zb8, Zb6, Zb5, Zb4, Zb3, true_and, List.length_cons, List.length_nil, ZaU, Bool.not_true, Bool.not_false, decide_true, decide_false, and_self, and_true, reduceIte, ne_eq, not_true_eq_false, not_false_eq_true, mk0, mk1, mk2, mk3, mk4, ml0, ml1, ml2, ml3, ml4, ml5, ml6, ZcX, ZcY, ZbK, ZbJ, YT, Nat.zero_le, sn1, sn2, sn3, sn4, sn5, sn6, sn7, sn8, sn9, Zcq, Zcr, Zcs, Zct, Zcu, Zcv, Zcw, Zcx, Zcy, Zcz, ZcA, ZcB, ZcC, ZcD, ZcE, Zbc, Zbd, Zb0, ZbZ, Za5, Za6, Za7, Zcl, Zcm, Zcn, List.nil_append, List.cons_append, ZbC, Nat.zero_add, List.map_cons, List.map_nil, Nat.reduceAdd, Nat.reduceEqDiff, Zbs, Zbp, ZaS, sz1, sz2, sz3, sz4, sz5, sz6, sz7, sz8, sz9, ZcG, ZcH, ZcI, ZcJ, ZcK, ZcL, ZcM, ZcN, ZcO, ZcP, ZcQ, ZcR, ZcS, ZcT, ZcU])
local macro_rules | `(tactic| wp_walk using $ts,*) => `(tactic| try simp (disch := first | assumption | omega | rfl) only [$[$ts:term],*, L2.Dn.lcW, L2.Dn.qpq, L2.Dn.qkt, L2.Dn.qpp, L2.Dn.qwU, L2.Dn.qrS, Zi, ifS, Zm, Yk, Yn, Y8, retS, Vh, ZF, Z3, Y0, Zf, Za, Zb, cE, JM, Za4, orT, tvE, ifE, U3, Zo, Ys, Wt, dmE, unE, slE, noO, someO, chE, ZbA, Zch, Zci, Jh, Zbn, YD, Vv, Jy, nilG, Zcc, Zcb, lcE, Zr, Yo, Jx, Z5, Jj, Yi, JT, Vs, WD, List.set_cons_zero, List.set_cons_succ, Yp, KH, JB, Zbt, Zbu, ZbI, Zbo, KD, Zbq, Zbr, Zbl, ev_call, Zbm, U6, L2.Dn.ite_tt, L2.Dn.ite_ff, U5, WF, Vn, Ws, Wi, Wh, Jo, Wj, ZbY, JH, ZbR, Bool.false_eq_true, if_false, if_true, Zb7, Zb8, Zb6, Zb5, Zb4, Zb3, true_and, List.length_cons, List.length_nil, ZaU, Bool.not_true, Bool.not_false, decide_true, decide_false, and_self, and_true, reduceIte, ne_eq, not_true_eq_false, not_false_eq_true, mk0, mk1, mk2, mk3, mk4, ml0, ml1, ml2, ml3, ml4, ml5, ml6, ZcX, ZcY, ZbK, ZbJ, YT, Nat.zero_le, sn1, sn2, sn3, sn4, sn5, sn6, sn7, sn8, sn9, Zcq, Zcr, Zcs, Zct, Zcu, Zcv, Zcw, Zcx, Zcy, Zcz, ZcA, ZcB, ZcC, ZcD, ZcE, Zbc, Zbd, Zb0, ZbZ, Za5, Za6, Za7, Zcl, Zcm, Zcn, List.nil_append, List.cons_append, ZbC, Nat.zero_add, List.map_cons, List.map_nil, Nat.reduceAdd, Nat.reduceEqDiff, Zbs, Zbp, ZaS, sz1, sz2, sz3, sz4, sz5, sz6, sz7, sz8, sz9, ZcG, ZcH, ZcI, ZcJ, ZcK, ZcL, ZcM, ZcN, ZcO, ZcP, ZcQ, ZcR, ZcS, ZcT, ZcU])
local macro_rules | `(tactic| walk_at "nq") => `(tactic| first | assumption | exact Ne.symm (by assumption) | exact Nat.ne_of_lt (by assumption))
theorem ZeR {n:Int} {cs:List PyData} {g:List Cell} {C:Cell} {P:D→List Cell→Prop} {Z:Exn→List Cell→Prop} (hC:YG cs C) (h0:0 < n) (h1:n < 2 ^ 64) (k:∀r C',0≤r→r < n→YG cs C'→P (.p (.int r)) (C'::g)):Eg (Ko [.cell (.g 0),.p (.int n)] (C::g)) P Z:=by
 obtain ⟨r,C',k1,k2,k3,k4⟩:=ZjW (g:=g) hC h0 h1
 exact Eg.of k4 (k r C' k1 k2 k3)
theorem Zfa {ns:List Int} (hl:ns.length≤63) {P:D→List Cell→Prop} {Z:Exn→List Cell→Prop} (k:∀cs C,YG cs C→P (.cell (.g 0)) [C]):Eg (Km [nums ns] []) P Z:=by
 obtain ⟨cs,C,hC,e⟩:=Zfb ns hl
 have e:Km [nums ns] [] = .ok (.cell (.g 0)) [C]:=e
 exact Eg.of e (k cs C hC)
def Zck:PyData→Bool
 | .list _=>true
 | .dict _=>true
 | _=>false
/-- what a thing is at a store: a small datum,a list that lives,a dict that lives -/
inductive Thg (n:Nat) (G:List Cell):D→PyData→Prop
 | p (p:PyData):Fit 3 100 p→Zck p=false→Thg n G (.p p) p
 | l (j:Nat) (xs:List PyData):G[j]?=some (.lst (xs.map D.p))→(∀x∈xs,Fit 2 60 x)→xs.length≤2+n→Thg n G (.cell (.g (j+1))) (.list xs)
 | d (j:Nat) (kv:List (Str×PyData)):G[j]?=some (.dct (sk kv))→(∀q∈kv,Fit 2 60 (.str q.1)∧Fit 2 60 q.2)→kv.length≤2+n→Thg n G (.cell (.g (j+1))) (sd kv)
abbrev Th (n:Nat) (G:List Cell) (d:D):Prop:=∃p,Thg n G d p
theorem Thg.app {n:Nat} {G:List Cell} {d:D} {p:PyData} (h:Thg n G d p) (J:List Cell):Thg n (G++J) d p:=by
 have at':∀{j:Nat} {x:Cell},G[j]?=some x→(G++J)[j]?=some x:=fun {j x} e=>by rw [List.getElem?_append_left (List.getElem?_eq_some_iff.mp e).1];exact e
 cases h with
 | p p h hs=>exact .p p h hs
 | l j xs a b c=>exact .l j xs (at' a) b c
 | d j kv a b c=>exact .d j kv (at' a) b c
theorem Thg.mono {n m:Nat} {G:List Cell} {d:D} {p:PyData} (h:Thg n G d p) (hl:n≤m):Thg m G d p:=by
 cases h with
 | p p h hs=>exact .p p h hs
 | l j xs a b c=>exact .l j xs a b (by omega)
 | d j kv a b c=>exact .d j kv a b (by omega)
/-- a list grows -/
theorem Th.qwZ {n:Nat} {G:List Cell} {d:D} (h:Th n G d) {j:Nat} {xs:List PyData} {x:PyData} (hj:G[j]?=some (.lst (xs.map D.p))) (hx:∀y∈xs,Fit 2 60 y) (hl:xs.length≤2+n) (hp:Fit 2 60 x):Th (n+1) (G.set j (.lst ((xs++[x]).map D.p))) d:=by
 have jl:=(List.getElem?_eq_some_iff.mp hj).1
 obtain ⟨p,h⟩:=h
 cases h with
 | p p h hs=>exact ⟨_,.p p h hs⟩
 | l i ys a b c =>
  by_cases e:i=j
  ·subst e
   refine ⟨_,.l i (xs++[x]) (List.getElem?_set_self jl) (fun y hy=>?_) (by simp;omega)⟩
   rcases List.mem_append.mp hy with hy | hy
   ·exact hx y hy
   ·rw [List.mem_singleton.mp hy];exact hp
  ·exact ⟨_,.l i ys (by rw [List.getElem?_set_ne (Ne.symm e)];exact a) b (by omega)⟩
 | d i kv a b c =>
  have e:i≠j:=fun e=>by
   rw [e,hj] at a
   cases a
  exact ⟨_,.d i kv (by rw [List.getElem?_set_ne (Ne.symm e)];exact a) b (by omega)⟩
/-- a dict is put to -/
theorem Th.qw2 {n:Nat} {G:List Cell} {d:D} (h:Th n G d) {j:Nat} {kv:List (Str×PyData)} {t:Str} {x:PyData} (hj:G[j]?=some (.dct (sk kv))) (hx:∀q∈kv,Fit 2 60 (.str q.1)∧Fit 2 60 q.2) (hl:kv.length≤2+n) (ht:Fit 2 60 (.str t)) (hp:Fit 2 60 x):Th (n+1) (G.set j (.dct (sk (putS kv t x)))) d:=by
 have jl:=(List.getElem?_eq_some_iff.mp hj).1
 obtain ⟨p,h⟩:=h
 cases h with
 | p p h hs=>exact ⟨_,.p p h hs⟩
 | l i ys a b c =>
  have e:i≠j:=fun e=>by
   rw [e,hj] at a
   cases a
  exact ⟨_,.l i ys (by rw [List.getElem?_set_ne (Ne.symm e)];exact a) b (by omega)⟩
 | d i kv' a b c =>
  by_cases e:i=j
  ·subst e
   refine ⟨_,.d i (putS kv t x) (List.getElem?_set_self jl) (fun q hq=>?_) (by have:=(ZiC kv t x).1;omega)⟩
   rcases ZiD hq with z | rfl
   ·exact hx q z
   ·exact ⟨ht,hp⟩
  ·exact ⟨_,.d i kv' (by rw [List.getElem?_set_ne (Ne.symm e)];exact a) b (by omega)⟩
theorem Th.app {n:Nat} {G:List Cell} {d:D} (h:Th n G d) (J:List Cell):Th n (G++J) d:=h.imp fun _ q=>q.app J
theorem Th.mono {n m:Nat} {G:List Cell} {d:D} (h:Th n G d) (hl:n≤m):Th m G d:=h.imp fun _ q=>q.mono hl
theorem Th.nl {n:Nat} {G:List Cell} {d:D} (h:Th n G d):L2.Dn.nl d=true:=by
 obtain ⟨p,h⟩:=h
 cases h <;> simp [L2.Dn.nl]
/-- it may be compared with itself,and shown -/
theorem Thg.sm {n:Nat} {G:List Cell} {d:D} {p:PyData} (h:Thg n G d p) (k:Nat):smD k d=true:=by
 cases h with
 | p p h hs=>cases k <;> simp only [smD] <;> exact decide_eq_true (Nat.le_trans h.dp (by omega))
 | l j xs a b c=>cases k <;> rfl
 | d j kv a b c=>cases k <;> rfl
theorem Thg.ft {n:Nat} {G:List Cell} {d:D} {p:PyData} (h:Thg n G d p) (hn:n≤10):Fit 3 3000 p:=by
 cases h with
 | p p h hs=>exact h.mono (Nat.le_refl _) (by omega)
 | l j xs a b c=>exact (Fit.list (d:=2) (n:=60) (k:=12) b (by omega)).mono (Nat.le_refl _) (by decide)
 | d j kv a b c=>exact (Fit.dict (d:=2) (n:=60) (k:=12) (fun q hq=>by
   obtain ⟨z,hz,rfl⟩:=List.mem_map.mp hq
   exact b z hz) (by rw [List.length_map];omega)).mono (Nat.le_refl _) (by decide)
theorem Thg.deep {n k:Nat} {G l:List Cell} {C:Cell} {d:D} {p:PyData} (h:Thg n G d p):L2.Dn.deep ⟨C::G,l⟩ (k+1) d=some p:=by
 cases h with
 | p p h hs=>rfl
 | l j xs a b c =>
  have ha:(⟨C::G,l⟩:Store).at_ (.g (j+1))=some (.lst (xs.map D.p)):=a
  simp only [L2.Dn.deep,ha,Kh,Option.map_some]
 | d j kv a b c =>
  have ha:(⟨C::G,l⟩:Store).at_ (.g (j+1))=some (.dct (sk kv)):=a
  have e1:(sk kv).map (·.2)=(kv.map (·.2)).map D.p:=by simp [sk,Function.comp_def]
  have e2:(sk kv).map (·.1)=kv.map fun q=>PyData.str q.1:=by simp [sk,Function.comp_def]
  simp only [L2.Dn.deep,ha,e1,e2,Kh,Option.map_some]
  show some (PyData.dict _)=some (PyData.dict _)
  congr 2
  clear a b c ha e1 e2
  induction kv with
  | nil=>rfl
  | cons q kv ih=>simp only [List.map_cons,List.zip_cons_cons] at ih ⊢;rw [ih]
theorem Ziy (m:Store):JP (.p (.int 10)) (.p (.int 40)) m=some (.p (.int 10000000000000000000000000000000000000000),m):=rfl
theorem Zfv (ρ:Rho) (g l:List Cell):(U8 .g (Kd (cE (.str (Str.ofString "a"))) (cE (.int 1)) ZaE)) ρ ⟨g,l⟩ = .ok (.cell (.g g.length)) ⟨g++[.dct (sk [(Str.ofString "a",.int 1)])],l⟩:=by with_unfolding_all rfl
theorem Zeb {ps:List PyData} (g l:List Cell):ZV .g (ps.map D.p) ⟨g,l⟩ = .ok (.cell (.g g.length)) ⟨g++[.lst (ps.map D.p)],l⟩:=by
 have e:nls (ps.map D.p)=true:=by
  induction ps with
  | nil=>rfl
  | cons q ps ih=>simp only [List.map_cons,nls,nl,ih,Bool.and_self]
 simp only [ZV]
 rw [if_pos e]
 rfl
section
variable {cs:List PyData} {G:List Cell} {C:Cell} {P:D→List Cell→Prop} {Z:Exn→List Cell→Prop}
theorem VM {w:String} (h:(PyData.strOk (Str.ofString w) && decide ((Str.ofString w).length≤4))=true):Fit 2 60 (.str (Str.ofString w)):=by
 rw [Bool.and_eq_true,decide_eq_true_eq] at h
 exact (Fit.str (k:=4) h.1 h.2).mono (by omega) (by decide)
theorem Zby {k:Int} (h:k.natAbs≤9):Fit 2 60 (.int k):=(Fit.int (k:=2) (by decide) (by decide) (by omega)).mono (by omega) (by decide)
theorem ZdQ {xs:List D} {k:Int} {d:D} (h0:0≤k) (e:xs[k.toNat]?=some d) (m:Store):ixG (.lst xs) (.p (.int k)) m=some (d,m):=by
 have hl:=(List.getElem?_eq_some_iff.mp e).1
 have e1:ixN xs.length k=some k.toNat:=by
  unfold ixN
  rw [if_pos h0,if_pos (by omega)]
 have e2:L2.atI xs k=some d:=by
  unfold L2.atI
  rw [e1]
  exact e
 refine WY ?_
 simp only [ixD,Yw,Ym,e2,Option.map_some]
theorem ZjX (hC:YG cs C) (k:∀d C' J,Th 0 (G++J) d→YG cs C'→P d (C'::(G++J))):Eg (Kr [.cell (.g 0)] (C::G)) P Z:=by
 rw [Zga]
 unfold W9 ZeN
 have dA:=Zfv
 generalize (U8 .g (Kd (cE (.str (Str.ofString "a"))) (cE (.int 1)) ZaE):FE)=DE at dA ⊢
 have p40:=Ziy
 have n1:∀g l,ZV .g [.p (.int 3),.p (.list [.int 4])] ⟨g,l⟩ = .ok (.cell (.g g.length)) ⟨g++[.lst [.p (.int 3),.p (.list [.int 4])]],l⟩:=fun g l=>Zeb (ps:=[.int 3,.list [.int 4]]) g l
 have n3:∀g l,ZV .g [.p (.str (Str.ofString "old"))] ⟨g,l⟩ = .ok (.cell (.g g.length)) ⟨g++[.lst [.p (.str (Str.ofString "old"))]],l⟩:=fun g l=>Zeb (ps:=[.str (Str.ofString "old")]) g l
 have ml4:Zh [.p (.int 4)] = .p (.list [.int 4]):=rfl
 have m2:Yj [.p (.int 2)] = .p (.tuple [.int 2]):=rfl
 have m12:Yj [.p (.int 1),.p (.tuple [.int 2])] = .p (.tuple [.int 1,.tuple [.int 2]]):=rfl
 walk_at "ev"
 refine ZeR hC (by decide) (by decide) fun r C1 r0 r1 hC1=>?_
 have mk:∀(a b c d:Ix),Zh [.p (.int (r - 500)),.p (.int 10000000000000000000000000000000000000000),.p (.str (Str.ofString "x")),.p (.str (Str.ofString "")),.p (.bool true),.p .none,.p (.tuple [.int 1,.tuple [.int 2]]),.cell a,.cell b,.cell c,.cell d] = .lst [.p (.int (r - 500)),.p (.int 10000000000000000000000000000000000000000),.p (.str (Str.ofString "x")),.p (.str (Str.ofString "")),.p (.bool true),.p .none,.p (.tuple [.int 1,.tuple [.int 2]]),.cell a,.cell b,.cell c,.cell d]:=fun _ _ _ _=>rfl
 obtain ⟨J,hJ⟩:∃J:List Cell,J=[.lst [.p (.int 3),.p (.list [.int 4])],.dct (sk [(Str.ofString "a",.int 1)]),.lst [],.lst [.p (.str (Str.ofString "old"))]]:=⟨_,rfl⟩
 have w1:Fit 2 60 (.str (Str.ofString "a")):=VM (by decide +kernel)
 have w2:Fit 2 60 (.str (Str.ofString "old")):=VM (by decide +kernel)
 have w3:Fit 2 60 (.str (Str.ofString "x")):=VM (by decide +kernel)
 have w4:Fit 2 60 (.str (Str.ofString "")):=VM (by decide +kernel)
 have i4:Fit 2 60 (.list [.int 4]):=(Fit.list (d:=1) (n:=22) (k:=1) (fun p hp=>by rw [List.mem_singleton.mp hp];exact (Fit.int (k:=2) (by decide) (by decide) (by decide)).mono (by omega) (by decide)) (by simp)).mono (by omega) (by decide)
 have up:∀{p:PyData},Fit 2 60 p→Fit 3 100 p:=fun h=>h.mono (by omega) (by omega)
 have ga:∀i (x:Cell),J[i]?=some x→(G++J)[G.length+i]?=some x:=fun i x e=>by rw [List.getElem?_append_right (by omega)];simpa using e
 obtain ⟨L,hL⟩:∃L:List D,L=[.p (.int (r - 500)),.p (.int 10000000000000000000000000000000000000000),.p (.str (Str.ofString "x")),.p (.str (Str.ofString "")),.p (.bool true),.p .none,.p (.tuple [.int 1,.tuple [.int 2]]),.cell (.g (G.length+0+1)),.cell (.g (G.length+1+1)),.cell (.g (G.length+2+1)),.cell (.g (G.length+3+1))]:=⟨_,rfl⟩
 have all:∀d∈L,Th 0 (G++J) d:=by
  intro d hd
  rw [hL] at hd
  simp only [List.mem_cons,List.not_mem_nil,or_false] at hd
  rcases hd with rfl | rfl | rfl | rfl | rfl | rfl | rfl | rfl | rfl | rfl | rfl
  ·exact ⟨_,.p _ ((Fit.int (k:=4) (by decide) (by decide) (by omega)).mono (by omega) (by decide)) rfl⟩
  ·exact ⟨_,.p _ ((Fit.int (k:=41) (by decide) (by decide) (by decide)).mono (by omega) (by decide)) rfl⟩
  ·exact ⟨_,.p _ (up w3) rfl⟩
  ·exact ⟨_,.p _ (up w4) rfl⟩
  ·exact ⟨_,.p _ ((Fit.bool true).mono (by omega) (by omega)) rfl⟩
  ·exact ⟨_,.p _ (Fit.none.mono (by omega) (by omega)) rfl⟩
  ·exact ⟨_,.p _ ⟨by rfl,by decide,by decide +kernel⟩ rfl⟩
  ·exact ⟨_,.l (G.length+0) [.int 3,.list [.int 4]] (ga 0 _ (by rw [hJ];rfl)) (fun x hx=>by
    simp only [List.mem_cons,List.not_mem_nil,or_false] at hx
    rcases hx with rfl | rfl
    ·exact Zby (by decide)
    ·exact i4) (by simp)⟩
  ·exact ⟨_,.d (G.length+1) [(Str.ofString "a",.int 1)] (ga 1 _ (by rw [hJ];rfl)) (fun x hx=>by
    rw [List.mem_singleton.mp hx]
    exact ⟨w1,Zby (by decide)⟩) (by simp)⟩
  ·exact ⟨_,.l (G.length+2) [] (ga 2 _ (by rw [hJ];rfl)) (by simp) (by simp)⟩
  ·exact ⟨_,.l (G.length+3) [.str (Str.ofString "old")] (ga 3 _ (by rw [hJ];rfl)) (fun x hx=>by rw [List.mem_singleton.mp hx];exact w2) (by simp)⟩
 have lL:L.length=11:=by rw [hL];rfl
 wp_walk using p40,m2,m12,ml4,n1,dA,n3,mk
 have eJ:G++[Cell.lst [D.p (PyData.int 3),D.p (PyData.list [PyData.int 4])]]++[Cell.dct (sk [(Str.ofString "a",PyData.int 1)])]++[Cell.lst []]++[Cell.lst [D.p (PyData.str (Str.ofString "old"))]]=G++J:=by rw [hJ];simp
 have eL:([D.p (PyData.int (r - 500)),D.p (PyData.int 10000000000000000000000000000000000000000),D.p (PyData.str (Str.ofString "x")),D.p (PyData.str (Str.ofString "")),D.p (PyData.bool true),D.p PyData.none,D.p (PyData.tuple [PyData.int 1,PyData.tuple [PyData.int 2]]),
   D.cell (Ix.g (G.length+1)),D.cell (Ix.g ((G++[Cell.lst [D.p (PyData.int 3),D.p (PyData.list [PyData.int 4])]]).length+1)),
   D.cell (Ix.g ((G++[Cell.lst [D.p (PyData.int 3),D.p (PyData.list [PyData.int 4])]]++[Cell.dct (sk [(Str.ofString "a",PyData.int 1)])]).length+1)),
   D.cell (Ix.g ((G++[Cell.lst [D.p (PyData.int 3),D.p (PyData.list [PyData.int 4])]]++[Cell.dct (sk [(Str.ofString "a",PyData.int 1)])]++[Cell.lst []]).length+1))]:List D)=L:=by rw [hL];simp
 rw [eJ,eL]
 refine ZeR hC1 (by decide) (by decide) fun q C2 q0 q1 hC2=>?_
 obtain ⟨d,hd⟩:∃d,L[q.toNat]?=some d:=⟨_,List.getElem?_eq_getElem (by omega)⟩
 have td:=all d (List.mem_of_getElem? hd)
 have ix:=fun m=>ZdQ q0 hd m
 wp_walk using ix
 first | exact ⟨td.nl,k d C2 J td hC2⟩ | exact k d C2 J td hC2
end
def names28:List Str:=["Parted","Ringed","BadRow","Hidden","NoSite","Wrong","BadKey","BadReference","BadMade","Unknown","NotFixed","Missing","BadItem","BadShown","BadMark","Loose","NoNumber","Twice","TooMany","Full","NoEntry","NoUse","Unlike","NoMove","Unfit","Nothing","NoText","NoCommand"]
def errs (a b c:D):List D:=[.exv "Parted" ["word","index","stream"] [c,b,a],.exv "Ringed" ["column","table"] [b,a],.exv "BadRow" ["at","table"] [b,a],.exv "Hidden" ["loop","place"] [b,a],.exv "NoSite" ["index","stream"] [b,a],.exv "Wrong" ["place"] [a],.exv "BadKey" ["table"] [a],.exv "BadReference" ["at"] [a],.exv "BadMade" ["at"] [a],.exv "Unknown" ["name"] [a],.exv "NotFixed" ["name"] [a],.exv "Missing" ["name"] [a],.exv "BadItem" ["at"] [a],.exv "BadShown" ["at"] [a],.exv "BadMark" ["name"] [a],.exv "Loose" ["at"] [a],.exv "NoNumber" ["number"] [a],.exv "Twice" ["table"] [a],.exv "TooMany" ["limit"] [a],.exv "Full" ["limit"] [a],.exv "NoEntry" ["many"] [a],.exv "NoUse" [] [],.exv "Unlike" [] [],.exv "NoMove" [] [],.exv "Unfit" [] [],.exv "Nothing" [] [],.exv "NoText" [] [],.exv "NoCommand" [] []]
noncomputable def eE0:FE:=(Zo .z (Za (Zv "Parted" ["stream","index","word"] (Za (vE 0) (Za (vE 1) (Za (vE 2) Zb)))) (Za (Zv "Ringed" ["table","column"] (Za (vE 0) (Za (vE 1) Zb))) (Za (Zv "BadRow" ["table","at"] (Za (vE 0) (Za (vE 1) Zb))) (Za (Zv "Hidden" ["place","loop"] (Za (vE 0) (Za (vE 1) Zb))) (Za (Zv "NoSite" ["stream","index"] (Za (vE 0) (Za (vE 1) Zb))) Zb))))))
theorem ZfU (a b c:D) (r:Rho) (m:Store):eE0 (some a::some b::some c::r) m = .ok (.lst [.exv "Parted" ["word","index","stream"] [c,b,a],.exv "Ringed" ["column","table"] [b,a],.exv "BadRow" ["at","table"] [b,a],.exv "Hidden" ["loop","place"] [b,a],.exv "NoSite" ["index","stream"] [b,a]]) m:=by with_unfolding_all rfl
noncomputable def eE1:FE:=(Zo .z (Za (Zv "Wrong" ["place"] (Za (vE 0) Zb)) (Za (Zv "BadKey" ["table"] (Za (vE 0) Zb)) (Za (Zv "BadReference" ["at"] (Za (vE 0) Zb)) (Za (Zv "BadMade" ["at"] (Za (vE 0) Zb)) (Za (Zv "Unknown" ["name"] (Za (vE 0) Zb)) (Za (Zv "NotFixed" ["name"] (Za (vE 0) Zb)) Zb)))))))
theorem ZfV (a b c:D) (r:Rho) (m:Store):eE1 (some a::some b::some c::r) m = .ok (.lst [.exv "Wrong" ["place"] [a],.exv "BadKey" ["table"] [a],.exv "BadReference" ["at"] [a],.exv "BadMade" ["at"] [a],.exv "Unknown" ["name"] [a],.exv "NotFixed" ["name"] [a]]) m:=by with_unfolding_all rfl
noncomputable def eE2:FE:=(Zo .z (Za (Zv "Missing" ["name"] (Za (vE 0) Zb)) (Za (Zv "BadItem" ["at"] (Za (vE 0) Zb)) (Za (Zv "BadShown" ["at"] (Za (vE 0) Zb)) (Za (Zv "BadMark" ["name"] (Za (vE 0) Zb)) (Za (Zv "Loose" ["at"] (Za (vE 0) Zb)) (Za (Zv "NoNumber" ["number"] (Za (vE 0) Zb)) (Za (Zv "Twice" ["table"] (Za (vE 0) Zb)) Zb))))))))
theorem ZfW (a b c:D) (r:Rho) (m:Store):eE2 (some a::some b::some c::r) m = .ok (.lst [.exv "Missing" ["name"] [a],.exv "BadItem" ["at"] [a],.exv "BadShown" ["at"] [a],.exv "BadMark" ["name"] [a],.exv "Loose" ["at"] [a],.exv "NoNumber" ["number"] [a],.exv "Twice" ["table"] [a]]) m:=by with_unfolding_all rfl
noncomputable def eE3:FE:=(Zo .z (Za (Zv "TooMany" ["limit"] (Za (vE 0) Zb)) (Za (Zv "Full" ["limit"] (Za (vE 0) Zb)) (Za (Zv "NoEntry" ["many"] (Za (vE 0) Zb)) (Za (Yd "NoUse") (Za (Yd "Unlike") (Za (Yd "NoMove") (Za (Yd "Unfit") (Za (Yd "Nothing") (Za (Yd "NoText") Zb))))))))))
theorem ZfX (a b c:D) (r:Rho) (m:Store):eE3 (some a::some b::some c::r) m = .ok (.lst [.exv "TooMany" ["limit"] [a],.exv "Full" ["limit"] [a],.exv "NoEntry" ["many"] [a],.exv "NoUse" [] [],.exv "Unlike" [] [],.exv "NoMove" [] [],.exv "Unfit" [] [],.exv "Nothing" [] [],.exv "NoText" [] []]) m:=by with_unfolding_all rfl
noncomputable def eE4:FE:=(Zo .z (Za (Yd "NoCommand") Zb))
theorem ZfY (a b c:D) (r:Rho) (m:Store):eE4 (some a::some b::some c::r) m = .ok (.lst [.exv "NoCommand" [] []]) m:=by with_unfolding_all rfl
theorem ZfQ (a b c:D) (m:Store):Zq .z (.lst [.exv "Parted" ["word","index","stream"] [c,b,a],.exv "Ringed" ["column","table"] [b,a],.exv "BadRow" ["at","table"] [b,a],.exv "Hidden" ["loop","place"] [b,a],.exv "NoSite" ["index","stream"] [b,a]]) (.lst [.exv "Wrong" ["place"] [a],.exv "BadKey" ["table"] [a],.exv "BadReference" ["at"] [a],.exv "BadMade" ["at"] [a],.exv "Unknown" ["name"] [a],.exv "NotFixed" ["name"] [a]]) m=some (.lst [.exv "Parted" ["word","index","stream"] [c,b,a],.exv "Ringed" ["column","table"] [b,a],.exv "BadRow" ["at","table"] [b,a],.exv "Hidden" ["loop","place"] [b,a],.exv "NoSite" ["index","stream"] [b,a],.exv "Wrong" ["place"] [a],.exv "BadKey" ["table"] [a],.exv "BadReference" ["at"] [a],.exv "BadMade" ["at"] [a],.exv "Unknown" ["name"] [a],.exv "NotFixed" ["name"] [a]],m):=by with_unfolding_all rfl
theorem ZfR (a b c:D) (m:Store):Zq .z (.lst [.exv "Parted" ["word","index","stream"] [c,b,a],.exv "Ringed" ["column","table"] [b,a],.exv "BadRow" ["at","table"] [b,a],.exv "Hidden" ["loop","place"] [b,a],.exv "NoSite" ["index","stream"] [b,a],.exv "Wrong" ["place"] [a],.exv "BadKey" ["table"] [a],.exv "BadReference" ["at"] [a],.exv "BadMade" ["at"] [a],.exv "Unknown" ["name"] [a],.exv "NotFixed" ["name"] [a]]) (.lst [.exv "Missing" ["name"] [a],.exv "BadItem" ["at"] [a],.exv "BadShown" ["at"] [a],.exv "BadMark" ["name"] [a],.exv "Loose" ["at"] [a],.exv "NoNumber" ["number"] [a],.exv "Twice" ["table"] [a]]) m=some (.lst [.exv "Parted" ["word","index","stream"] [c,b,a],.exv "Ringed" ["column","table"] [b,a],.exv "BadRow" ["at","table"] [b,a],.exv "Hidden" ["loop","place"] [b,a],.exv "NoSite" ["index","stream"] [b,a],.exv "Wrong" ["place"] [a],.exv "BadKey" ["table"] [a],.exv "BadReference" ["at"] [a],.exv "BadMade" ["at"] [a],.exv "Unknown" ["name"] [a],.exv "NotFixed" ["name"] [a],.exv "Missing" ["name"] [a],.exv "BadItem" ["at"] [a],.exv "BadShown" ["at"] [a],.exv "BadMark" ["name"] [a],.exv "Loose" ["at"] [a],.exv "NoNumber" ["number"] [a],.exv "Twice" ["table"] [a]],m):=by with_unfolding_all rfl
theorem ZfS (a b c:D) (m:Store):Zq .z (.lst [.exv "Parted" ["word","index","stream"] [c,b,a],.exv "Ringed" ["column","table"] [b,a],.exv "BadRow" ["at","table"] [b,a],.exv "Hidden" ["loop","place"] [b,a],.exv "NoSite" ["index","stream"] [b,a],.exv "Wrong" ["place"] [a],.exv "BadKey" ["table"] [a],.exv "BadReference" ["at"] [a],.exv "BadMade" ["at"] [a],.exv "Unknown" ["name"] [a],.exv "NotFixed" ["name"] [a],.exv "Missing" ["name"] [a],.exv "BadItem" ["at"] [a],.exv "BadShown" ["at"] [a],.exv "BadMark" ["name"] [a],.exv "Loose" ["at"] [a],.exv "NoNumber" ["number"] [a],.exv "Twice" ["table"] [a]]) (.lst [.exv "TooMany" ["limit"] [a],.exv "Full" ["limit"] [a],.exv "NoEntry" ["many"] [a],.exv "NoUse" [] [],.exv "Unlike" [] [],.exv "NoMove" [] [],.exv "Unfit" [] [],.exv "Nothing" [] [],.exv "NoText" [] []]) m=some (.lst [.exv "Parted" ["word","index","stream"] [c,b,a],.exv "Ringed" ["column","table"] [b,a],.exv "BadRow" ["at","table"] [b,a],.exv "Hidden" ["loop","place"] [b,a],.exv "NoSite" ["index","stream"] [b,a],.exv "Wrong" ["place"] [a],.exv "BadKey" ["table"] [a],.exv "BadReference" ["at"] [a],.exv "BadMade" ["at"] [a],.exv "Unknown" ["name"] [a],.exv "NotFixed" ["name"] [a],.exv "Missing" ["name"] [a],.exv "BadItem" ["at"] [a],.exv "BadShown" ["at"] [a],.exv "BadMark" ["name"] [a],.exv "Loose" ["at"] [a],.exv "NoNumber" ["number"] [a],.exv "Twice" ["table"] [a],.exv "TooMany" ["limit"] [a],.exv "Full" ["limit"] [a],.exv "NoEntry" ["many"] [a],.exv "NoUse" [] [],.exv "Unlike" [] [],.exv "NoMove" [] [],.exv "Unfit" [] [],.exv "Nothing" [] [],.exv "NoText" [] []],m):=by with_unfolding_all rfl
theorem ZfT (a b c:D) (m:Store):Zq .z (.lst [.exv "Parted" ["word","index","stream"] [c,b,a],.exv "Ringed" ["column","table"] [b,a],.exv "BadRow" ["at","table"] [b,a],.exv "Hidden" ["loop","place"] [b,a],.exv "NoSite" ["index","stream"] [b,a],.exv "Wrong" ["place"] [a],.exv "BadKey" ["table"] [a],.exv "BadReference" ["at"] [a],.exv "BadMade" ["at"] [a],.exv "Unknown" ["name"] [a],.exv "NotFixed" ["name"] [a],.exv "Missing" ["name"] [a],.exv "BadItem" ["at"] [a],.exv "BadShown" ["at"] [a],.exv "BadMark" ["name"] [a],.exv "Loose" ["at"] [a],.exv "NoNumber" ["number"] [a],.exv "Twice" ["table"] [a],.exv "TooMany" ["limit"] [a],.exv "Full" ["limit"] [a],.exv "NoEntry" ["many"] [a],.exv "NoUse" [] [],.exv "Unlike" [] [],.exv "NoMove" [] [],.exv "Unfit" [] [],.exv "Nothing" [] [],.exv "NoText" [] []]) (.lst [.exv "NoCommand" [] []]) m=some (.lst [.exv "Parted" ["word","index","stream"] [c,b,a],.exv "Ringed" ["column","table"] [b,a],.exv "BadRow" ["at","table"] [b,a],.exv "Hidden" ["loop","place"] [b,a],.exv "NoSite" ["index","stream"] [b,a],.exv "Wrong" ["place"] [a],.exv "BadKey" ["table"] [a],.exv "BadReference" ["at"] [a],.exv "BadMade" ["at"] [a],.exv "Unknown" ["name"] [a],.exv "NotFixed" ["name"] [a],.exv "Missing" ["name"] [a],.exv "BadItem" ["at"] [a],.exv "BadShown" ["at"] [a],.exv "BadMark" ["name"] [a],.exv "Loose" ["at"] [a],.exv "NoNumber" ["number"] [a],.exv "Twice" ["table"] [a],.exv "TooMany" ["limit"] [a],.exv "Full" ["limit"] [a],.exv "NoEntry" ["many"] [a],.exv "NoUse" [] [],.exv "Unlike" [] [],.exv "NoMove" [] [],.exv "Unfit" [] [],.exv "Nothing" [] [],.exv "NoText" [] [],.exv "NoCommand" [] []],m):=by with_unfolding_all rfl
theorem Zgd:W7=Zi (Zm 3 eE0) (Zi (Zm 3 (opE (Zq .z) (vE 3) eE1)) (Zi (Zm 3 (opE (Zq .z) (vE 3) eE2)) (Zi (Zm 3 (opE (Zq .z) (vE 3) eE3)) (retS (opE (Zq .z) (vE 3) eE4))))):=rfl
section
variable {G:List Cell} {P:D→List Cell→Prop} {Z:Exn→List Cell→Prop} {a b c:D}
theorem Zge (ha:nl a=true) (hb:nl b=true) (hc:nl c=true) (k:P (.lst (errs a b c)) G):Eg (Wb [a,b,c] G) P Z:=by
 have hn:nl (.lst (errs a b c))=true:=by simp only [errs,nl,nls,ha,hb,hc,Bool.and_self]
 rw [Zf8,Zgd]
 have v0:=ZfU a b c
 have v1:=ZfV a b c
 have v2:=ZfW a b c
 have v3:=ZfX a b c
 have v4:=ZfY a b c
 have a1:=ZfQ a b c
 have a2:=ZfR a b c
 have a3:=ZfS a b c
 have a4:=ZfT a b c
 generalize eE0=E0 at v0 ⊢
 generalize eE1=E1 at v1 ⊢
 generalize eE2=E2 at v2 ⊢
 generalize eE3=E3 at v3 ⊢
 generalize eE4=E4 at v4 ⊢
 wp_walk using v0,v1,v2,v3,v4,a1,a2,a3,a4
 first | exact ⟨hn,k⟩ | exact k
end
noncomputable def fE0:FE:=(Zo .z (Za (Zr ["NoSite","Parted"] [] "stream" (opE ixG (vE 0) (cE (.int 0)))) (Za (Zr ["BadKey","Ringed","BadRow","Twice"] [] "table" (opE ixG (vE 0) (cE (.int 1)))) (Za (Zr ["BadKey","Ringed","BadRow","Twice"] [] "table" (opE ixG (vE 0) (cE (.int 2)))) (Za (Zr ["Wrong","Hidden"] [] "place" (opE ixG (vE 0) (cE (.int 3)))) (Za (Zr ["NoSite","Parted"] [] "stream" (opE ixG (vE 0) (cE (.int 4)))) (Za (Zr ["Wrong","Hidden"] [] "place" (opE ixG (vE 0) (cE (.int 5)))) Zb)))))))
theorem Zgl (a b c:D) (r:Rho) (m:Store):fE0 (some (.lst (errs a b c))::r) m = .ok (Zh [a,a,a,a,a,a]) m:=by with_unfolding_all rfl
noncomputable def fE1:FE:=(Zo .z (Za (Zr ["BadKey","Ringed","BadRow","Twice"] [] "table" (opE ixG (vE 0) (cE (.int 6)))) (Za (Zr ["BadReference","BadMade","BadRow","BadItem","BadShown","Loose"] [] "at" (opE ixG (vE 0) (cE (.int 7)))) (Za (Zr ["BadReference","BadMade","BadRow","BadItem","BadShown","Loose"] [] "at" (opE ixG (vE 0) (cE (.int 8)))) (Za (Zr ["Unknown","NotFixed","Missing","BadMark"] [] "name" (opE ixG (vE 0) (cE (.int 9)))) (Za (Zr ["Unknown","NotFixed","Missing","BadMark"] [] "name" (opE ixG (vE 0) (cE (.int 10)))) (Za (Zr ["Unknown","NotFixed","Missing","BadMark"] [] "name" (opE ixG (vE 0) (cE (.int 11)))) (Za (Zr ["BadReference","BadMade","BadRow","BadItem","BadShown","Loose"] [] "at" (opE ixG (vE 0) (cE (.int 12)))) Zb))))))))
theorem Zgm (a b c:D) (r:Rho) (m:Store):fE1 (some (.lst (errs a b c))::r) m = .ok (Zh [a,a,a,a,a,a,a]) m:=by with_unfolding_all rfl
noncomputable def fE2:FE:=(Zo .z (Za (Zr ["BadReference","BadMade","BadRow","BadItem","BadShown","Loose"] [] "at" (opE ixG (vE 0) (cE (.int 13)))) (Za (Zr ["Unknown","NotFixed","Missing","BadMark"] [] "name" (opE ixG (vE 0) (cE (.int 14)))) (Za (Zr ["BadReference","BadMade","BadRow","BadItem","BadShown","Loose"] [] "at" (opE ixG (vE 0) (cE (.int 15)))) (Za (Zr ["NoNumber"] [] "number" (opE ixG (vE 0) (cE (.int 16)))) (Za (Zr ["BadKey","Ringed","BadRow","Twice"] [] "table" (opE ixG (vE 0) (cE (.int 17)))) (Za (Zr ["TooMany","Full"] [] "limit" (opE ixG (vE 0) (cE (.int 18)))) Zb)))))))
theorem Zgn (a b c:D) (r:Rho) (m:Store):fE2 (some (.lst (errs a b c))::r) m = .ok (Zh [a,a,a,a,a,a]) m:=by with_unfolding_all rfl
noncomputable def fE3:FE:=(Zo .z (Za (Zr ["TooMany","Full"] [] "limit" (opE ixG (vE 0) (cE (.int 19)))) (Za (Zr ["NoEntry"] [] "many" (opE ixG (vE 0) (cE (.int 20)))) Zb)))
theorem Zgo (a b c:D) (r:Rho) (m:Store):fE3 (some (.lst (errs a b c))::r) m = .ok (Zh [a,a]) m:=by with_unfolding_all rfl
noncomputable def fE4:FE:=(Zo .z (Za (Zr ["NoSite","Parted"] [] "index" (opE ixG (vE 0) (cE (.int 0)))) (Za (Zr ["Ringed"] [] "column" (opE ixG (vE 0) (cE (.int 1)))) (Za (Zr ["BadReference","BadMade","BadRow","BadItem","BadShown","Loose"] [] "at" (opE ixG (vE 0) (cE (.int 2)))) (Za (Zr ["Hidden"] [] "loop" (opE ixG (vE 0) (cE (.int 3)))) (Za (Zr ["NoSite","Parted"] [] "index" (opE ixG (vE 0) (cE (.int 4)))) Zb))))))
theorem Zgp (a b c:D) (r:Rho) (m:Store):fE4 (some (.lst (errs a b c))::r) m = .ok (Zh [b,b,b,b,b]) m:=by with_unfolding_all rfl
noncomputable def fE5:FE:=(Zo .z (Za (Zr ["Parted"] [] "word" (opE ixG (vE 0) (cE (.int 0)))) Zb))
theorem Zgq (a b c:D) (r:Rho) (m:Store):fE5 (some (.lst (errs a b c))::r) m = .ok (Zh [c]) m:=by with_unfolding_all rfl
theorem Zgt:W8=Zi (Zm 1 fE0) (Zi (Zm 1 (opE (Zq .z) (vE 1) fE1)) (Zi (Zm 1 (opE (Zq .z) (vE 1) fE2)) (Zi (Zm 1 (opE (Zq .z) (vE 1) fE3)) (Zi (Zm 2 fE4) (retS (Zo .z (Za (vE 1) (Za (vE 2) (Za fE5 Zb))))))))):=rfl
theorem Zd4 (xs:List D) (m:Store):Ym (Zh xs) m=some xs:=by
 unfold Zh
 split
 ·rename_i ds e
  rw [YZ e]
  rfl
 ·rfl
theorem Za2 {xs ys:List D} (h:decide (xs.length+ys.length≤1000)=true) (m:Store):Zq .z (Zh xs) (Zh ys) m=some (Zh (xs++ys),m):=by
 have i1:Y7 (Zh xs) (Zh ys) m=none:=by
  unfold Zh
  split <;> split <;> rfl
 have i2:WN (Zh xs) (Zh ys) m=none:=by
  unfold Zh
  split <;> split <;> rfl
 have h:=of_decide_eq_true h
 simp only [Zq,ZX,i1,i2]
 simp only [Vy,Zd4,if_pos (show xs.length+ys.length≤sizeLine by rw [sizeLine_eq];omega),YW,ZV]
theorem ZaF {xs:List D} (h:nls xs=true):nl (Zh xs)=true:=by
 unfold Zh
 split
 ·rfl
 ·simp only [nl,h]
theorem Zb9 {d:D} (h:nl d=true):∀n:Nat,nls (List.replicate n d)=true
 | 0=>rfl
 | n+1=>by simp only [List.replicate_succ,nls,h,Zb9 h n,Bool.and_self]
/-- what the fields come to -/
def Vd (a b c:D):D:=Zh [Zh (List.replicate 21 a),Zh (List.replicate 5 b),Zh [c]]
section
variable {G:List Cell} {P:D→List Cell→Prop} {Z:Exn→List Cell→Prop} {a b c:D}
theorem ZeW (ha:nl a=true) (hb:nl b=true) (hc:nl c=true):nl (Vd a b c)=true:=ZaF (by simp only [nls,ZaF (Zb9 ha 21),ZaF (Zb9 hb 5),ZaF (show nls [c]=true by simp only [nls,hc,Bool.and_self]),Bool.and_self])
theorem Zgr (ha:nl a=true) (hb:nl b=true) (hc:nl c=true) (k:P (Vd a b c) G):Eg (VG [.lst (errs a b c)] G) P Z:=by
 have hn:=ZeW ha hb hc
 rw [Zf9,Zgt]
 have v0:=Zgl a b c
 have v1:=Zgm a b c
 have v2:=Zgn a b c
 have v3:=Zgo a b c
 have v4:=Zgp a b c
 have v5:=Zgq a b c
 have a1:∀m,Zq .z (Zh [a,a,a,a,a,a]) (Zh [a,a,a,a,a,a,a]) m=some (Zh [a,a,a,a,a,a,a,a,a,a,a,a,a],m):=Za2 rfl
 have a2:∀m,Zq .z (Zh [a,a,a,a,a,a,a,a,a,a,a,a,a]) (Zh [a,a,a,a,a,a]) m=some (Zh [a,a,a,a,a,a,a,a,a,a,a,a,a,a,a,a,a,a,a],m):=Za2 rfl
 have a3:∀m,Zq .z (Zh [a,a,a,a,a,a,a,a,a,a,a,a,a,a,a,a,a,a,a]) (Zh [a,a]) m=some (Zh [a,a,a,a,a,a,a,a,a,a,a,a,a,a,a,a,a,a,a,a,a],m):=Za2 rfl
 generalize fE0=E0 at v0 ⊢
 generalize fE1=E1 at v1 ⊢
 generalize fE2=E2 at v2 ⊢
 generalize fE3=E3 at v3 ⊢
 generalize fE4=E4 at v4 ⊢
 generalize fE5=E5 at v5 ⊢
 generalize hL:errs a b c=L at *
 have vd:Zh [Zh [a,a,a,a,a,a,a,a,a,a,a,a,a,a,a,a,a,a,a,a,a],Zh [b,b,b,b,b],Zh [c]]=Vd a b c:=rfl
 wp_walk using v0,v1,v2,v3,v4,v5,a1,a2,a3,vd
 first | exact ⟨hn,k⟩ | exact k
end
theorem ZM {C:Str}:∀{ns:List Str} {E:Str},E∈ns→(ns.map fun n=>(n,decide (n=C))).lookup E=some (decide (E=C))
 | n::ns,E,h=>by
  rw [List.map_cons,List.lookup_cons]
  by_cases e:E=n
  ·subst e
   rw [beq_self_eq_true]
  ·rw [show (E == n)=false from beq_eq_false_iff_ne.mpr e]
   exact ZM ((List.mem_cons.mp h).resolve_left e)
theorem Zd3:∀{ns:List Str} {E:Str},E∈ns→(ns.map fun n=>(n,true)).lookup E=some true
 | n::ns,E,h=>by
  rw [List.map_cons,List.lookup_cons]
  by_cases e:E=n
  ·subst e
   rw [beq_self_eq_true]
  ·rw [show (E == n)=false from beq_eq_false_iff_ne.mpr e]
   exact Zd3 ((List.mem_cons.mp h).resolve_left e)
theorem ZL {C E:Str} {lx:List (Str×Bool)} {b:Bool} (h:lx.lookup E=some b) (ns:List Str) (xs:List D) (m:Store):Zk C lx [.exv E ns xs,.fn C] m=some (.p (.bool b),m):=by
 simp only [Zk,if_true,Jq,h,Option.map_some]
/-- the classes that are told of an error -/
def Y9 (E:Str):List PyData:=names28.map fun C => .bool (decide (E=C))
theorem Vz {xs ys:List PyData} (h:decide (xs.length+ys.length≤1000)=true) (m:Store):Zq .z (.p (.list xs)) (.p (.list ys)) m=some (.p (.list (xs++ys)),m):=Ze5 (by rw [sizeLine_eq];have:=of_decide_eq_true h;omega)
section
variable {E:Str} {ns:List Str} {xs:List D}
noncomputable def cE0:FE:=(Zo .z (Za (Zf (Zk "Parted" Zav) (Za (vE 0) (Za (fnE "Parted") Zb))) (Za (Zf (Zk "Ringed" Zaw) (Za (vE 0) (Za (fnE "Ringed") Zb))) (Za (Zf (Zk "BadRow" Zag) (Za (vE 0) (Za (fnE "BadRow") Zb))) (Za (Zf (Zk "Hidden" Zaj) (Za (vE 0) (Za (fnE "Hidden") Zb))) Zb)))))
theorem Zfd (hE:E∈xns) (r:Rho) (m:Store):cE0 (some (.exv E ns xs)::r) m = .ok (.p (.list [.bool (decide (E="Parted")),.bool (decide (E="Ringed")),.bool (decide (E="BadRow")),.bool (decide (E="Hidden"))])) m:=by
 have qvV:∀m,Zk "Parted" Zav [.exv E ns xs,.fn "Parted"] m=some (.p (.bool (decide (E="Parted"))),m):=ZL (ZM hE) ns xs
 have qvW:∀m,Zk "Ringed" Zaw [.exv E ns xs,.fn "Ringed"] m=some (.p (.bool (decide (E="Ringed"))),m):=ZL (ZM hE) ns xs
 have qvQ:∀m,Zk "BadRow" Zag [.exv E ns xs,.fn "BadRow"] m=some (.p (.bool (decide (E="BadRow"))),m):=ZL (ZM hE) ns xs
 have qvR:∀m,Zk "Hidden" Zaj [.exv E ns xs,.fn "Hidden"] m=some (.p (.bool (decide (E="Hidden"))),m):=ZL (ZM hE) ns xs
 have mk:Zh [.p (.bool (decide (E="Parted"))),.p (.bool (decide (E="Ringed"))),.p (.bool (decide (E="BadRow"))),.p (.bool (decide (E="Hidden")))] = .p (.list [.bool (decide (E="Parted")),.bool (decide (E="Ringed")),.bool (decide (E="BadRow")),.bool (decide (E="Hidden"))]):=rfl
 simp only [cE0,Zo,Zf,Za,Zb,fnE,Yo,Z5,Yi,qvV,qvW,qvQ,qvR,List.length_cons,List.length_nil,YT,mk]
 rw [if_pos (lsz (by decide))]
noncomputable def cE1:FE:=(Zo .z (Za (Zf (Zk "NoSite" Zaq) (Za (vE 0) (Za (fnE "NoSite") Zb))) (Za (Zf (Zk "Wrong" ZaC) (Za (vE 0) (Za (fnE "Wrong") Zb))) (Za (Zf (Zk "BadKey" Zac) (Za (vE 0) (Za (fnE "BadKey") Zb))) (Za (Zf (Zk "BadReference" Zaf) (Za (vE 0) (Za (fnE "BadReference") Zb))) Zb)))))
theorem Zfe (hE:E∈xns) (r:Rho) (m:Store):cE1 (some (.exv E ns xs)::r) m = .ok (.p (.list [.bool (decide (E="NoSite")),.bool (decide (E="Wrong")),.bool (decide (E="BadKey")),.bool (decide (E="BadReference"))])) m:=by
 have qvT:∀m,Zk "NoSite" Zaq [.exv E ns xs,.fn "NoSite"] m=some (.p (.bool (decide (E="NoSite"))),m):=ZL (ZM hE) ns xs
 have qwo:∀m,Zk "Wrong" ZaC [.exv E ns xs,.fn "Wrong"] m=some (.p (.bool (decide (E="Wrong"))),m):=ZL (ZM hE) ns xs
 have qvP:∀m,Zk "BadKey" Zac [.exv E ns xs,.fn "BadKey"] m=some (.p (.bool (decide (E="BadKey"))),m):=ZL (ZM hE) ns xs
 have qho:∀m,Zk "BadReference" Zaf [.exv E ns xs,.fn "BadReference"] m=some (.p (.bool (decide (E="BadReference"))),m):=ZL (ZM hE) ns xs
 have mk:Zh [.p (.bool (decide (E="NoSite"))),.p (.bool (decide (E="Wrong"))),.p (.bool (decide (E="BadKey"))),.p (.bool (decide (E="BadReference")))] = .p (.list [.bool (decide (E="NoSite")),.bool (decide (E="Wrong")),.bool (decide (E="BadKey")),.bool (decide (E="BadReference"))]):=rfl
 simp only [cE1,Zo,Zf,Za,Zb,fnE,Yo,Z5,Yi,qvT,qwo,qvP,qho,List.length_cons,List.length_nil,YT,mk]
 rw [if_pos (lsz (by decide))]
noncomputable def cE2:FE:=(Zo .z (Za (Zf (Zk "BadMade" Zad) (Za (vE 0) (Za (fnE "BadMade") Zb))) (Za (Zf (Zk "Unknown" ZaA) (Za (vE 0) (Za (fnE "Unknown") Zb))) (Za (Zf (Zk "NotFixed" Zat) (Za (vE 0) (Za (fnE "NotFixed") Zb))) (Za (Zf (Zk "Missing" Zal) (Za (vE 0) (Za (fnE "Missing") Zb))) Zb)))))
theorem Zff (hE:E∈xns) (r:Rho) (m:Store):cE2 (some (.exv E ns xs)::r) m = .ok (.p (.list [.bool (decide (E="BadMade")),.bool (decide (E="Unknown")),.bool (decide (E="NotFixed")),.bool (decide (E="Missing"))])) m:=by
 have quC:∀m,Zk "BadMade" Zad [.exv E ns xs,.fn "BadMade"] m=some (.p (.bool (decide (E="BadMade"))),m):=ZL (ZM hE) ns xs
 have quI:∀m,Zk "Unknown" ZaA [.exv E ns xs,.fn "Unknown"] m=some (.p (.bool (decide (E="Unknown"))),m):=ZL (ZM hE) ns xs
 have qsh:∀m,Zk "NotFixed" Zat [.exv E ns xs,.fn "NotFixed"] m=some (.p (.bool (decide (E="NotFixed"))),m):=ZL (ZM hE) ns xs
 have quE:∀m,Zk "Missing" Zal [.exv E ns xs,.fn "Missing"] m=some (.p (.bool (decide (E="Missing"))),m):=ZL (ZM hE) ns xs
 have mk:Zh [.p (.bool (decide (E="BadMade"))),.p (.bool (decide (E="Unknown"))),.p (.bool (decide (E="NotFixed"))),.p (.bool (decide (E="Missing")))] = .p (.list [.bool (decide (E="BadMade")),.bool (decide (E="Unknown")),.bool (decide (E="NotFixed")),.bool (decide (E="Missing"))]):=rfl
 simp only [cE2,Zo,Zf,Za,Zb,fnE,Yo,Z5,Yi,quC,quI,qsh,quE,List.length_cons,List.length_nil,YT,mk]
 rw [if_pos (lsz (by decide))]
noncomputable def cE3:FE:=(Zo .z (Za (Zf (Zk "BadItem" Zab) (Za (vE 0) (Za (fnE "BadItem") Zb))) (Za (Zf (Zk "BadShown" Zah) (Za (vE 0) (Za (fnE "BadShown") Zb))) (Za (Zf (Zk "BadMark" Zae) (Za (vE 0) (Za (fnE "BadMark") Zb))) (Za (Zf (Zk "Loose" Zak) (Za (vE 0) (Za (fnE "Loose") Zb))) Zb)))))
theorem Zfg (hE:E∈xns) (r:Rho) (m:Store):cE3 (some (.exv E ns xs)::r) m = .ok (.p (.list [.bool (decide (E="BadItem")),.bool (decide (E="BadShown")),.bool (decide (E="BadMark")),.bool (decide (E="Loose"))])) m:=by
 have quB:∀m,Zk "BadItem" Zab [.exv E ns xs,.fn "BadItem"] m=some (.p (.bool (decide (E="BadItem"))),m):=ZL (ZM hE) ns xs
 have qsf:∀m,Zk "BadShown" Zah [.exv E ns xs,.fn "BadShown"] m=some (.p (.bool (decide (E="BadShown"))),m):=ZL (ZM hE) ns xs
 have quD:∀m,Zk "BadMark" Zae [.exv E ns xs,.fn "BadMark"] m=some (.p (.bool (decide (E="BadMark"))),m):=ZL (ZM hE) ns xs
 have qwk:∀m,Zk "Loose" Zak [.exv E ns xs,.fn "Loose"] m=some (.p (.bool (decide (E="Loose"))),m):=ZL (ZM hE) ns xs
 have mk:Zh [.p (.bool (decide (E="BadItem"))),.p (.bool (decide (E="BadShown"))),.p (.bool (decide (E="BadMark"))),.p (.bool (decide (E="Loose")))] = .p (.list [.bool (decide (E="BadItem")),.bool (decide (E="BadShown")),.bool (decide (E="BadMark")),.bool (decide (E="Loose"))]):=rfl
 simp only [cE3,Zo,Zf,Za,Zb,fnE,Yo,Z5,Yi,quB,qsf,quD,qwk,List.length_cons,List.length_nil,YT,mk]
 rw [if_pos (lsz (by decide))]
noncomputable def cE4:FE:=(Zo .z (Za (Zf (Zk "NoNumber" Zap) (Za (vE 0) (Za (fnE "NoNumber") Zb))) (Za (Zf (Zk "Twice" Zay) (Za (vE 0) (Za (fnE "Twice") Zb))) (Za (Zf (Zk "TooMany" Zax) (Za (vE 0) (Za (fnE "TooMany") Zb))) (Za (Zf (Zk "Full" Zai) (Za (vE 0) (Za (fnE "Full") Zb))) Zb)))))
theorem Zfh (hE:E∈xns) (r:Rho) (m:Store):cE4 (some (.exv E ns xs)::r) m = .ok (.p (.list [.bool (decide (E="NoNumber")),.bool (decide (E="Twice")),.bool (decide (E="TooMany")),.bool (decide (E="Full"))])) m:=by
 have qsg:∀m,Zk "NoNumber" Zap [.exv E ns xs,.fn "NoNumber"] m=some (.p (.bool (decide (E="NoNumber"))),m):=ZL (ZM hE) ns xs
 have qwm:∀m,Zk "Twice" Zay [.exv E ns xs,.fn "Twice"] m=some (.p (.bool (decide (E="Twice"))),m):=ZL (ZM hE) ns xs
 have quH:∀m,Zk "TooMany" Zax [.exv E ns xs,.fn "TooMany"] m=some (.p (.bool (decide (E="TooMany"))),m):=ZL (ZM hE) ns xs
 have qwO:∀m,Zk "Full" Zai [.exv E ns xs,.fn "Full"] m=some (.p (.bool (decide (E="Full"))),m):=ZL (ZM hE) ns xs
 have mk:Zh [.p (.bool (decide (E="NoNumber"))),.p (.bool (decide (E="Twice"))),.p (.bool (decide (E="TooMany"))),.p (.bool (decide (E="Full")))] = .p (.list [.bool (decide (E="NoNumber")),.bool (decide (E="Twice")),.bool (decide (E="TooMany")),.bool (decide (E="Full"))]):=rfl
 simp only [cE4,Zo,Zf,Za,Zb,fnE,Yo,Z5,Yi,qsg,qwm,quH,qwO,List.length_cons,List.length_nil,YT,mk]
 rw [if_pos (lsz (by decide))]
noncomputable def cE5:FE:=(Zo .z (Za (Zf (Zk "NoEntry" Zan) (Za (vE 0) (Za (fnE "NoEntry") Zb))) (Za (Zf (Zk "NoUse" Zas) (Za (vE 0) (Za (fnE "NoUse") Zb))) (Za (Zf (Zk "Unlike" ZaB) (Za (vE 0) (Za (fnE "Unlike") Zb))) (Za (Zf (Zk "NoMove" Zao) (Za (vE 0) (Za (fnE "NoMove") Zb))) Zb)))))
theorem Zfi (hE:E∈xns) (r:Rho) (m:Store):cE5 (some (.exv E ns xs)::r) m = .ok (.p (.list [.bool (decide (E="NoEntry")),.bool (decide (E="NoUse")),.bool (decide (E="Unlike")),.bool (decide (E="NoMove"))])) m:=by
 have quF:∀m,Zk "NoEntry" Zan [.exv E ns xs,.fn "NoEntry"] m=some (.p (.bool (decide (E="NoEntry"))),m):=ZL (ZM hE) ns xs
 have qwl:∀m,Zk "NoUse" Zas [.exv E ns xs,.fn "NoUse"] m=some (.p (.bool (decide (E="NoUse"))),m):=ZL (ZM hE) ns xs
 have qvX:∀m,Zk "Unlike" ZaB [.exv E ns xs,.fn "Unlike"] m=some (.p (.bool (decide (E="Unlike"))),m):=ZL (ZM hE) ns xs
 have qvS:∀m,Zk "NoMove" Zao [.exv E ns xs,.fn "NoMove"] m=some (.p (.bool (decide (E="NoMove"))),m):=ZL (ZM hE) ns xs
 have mk:Zh [.p (.bool (decide (E="NoEntry"))),.p (.bool (decide (E="NoUse"))),.p (.bool (decide (E="Unlike"))),.p (.bool (decide (E="NoMove")))] = .p (.list [.bool (decide (E="NoEntry")),.bool (decide (E="NoUse")),.bool (decide (E="Unlike")),.bool (decide (E="NoMove"))]):=rfl
 simp only [cE5,Zo,Zf,Za,Zb,fnE,Yo,Z5,Yi,quF,qwl,qvX,qvS,List.length_cons,List.length_nil,YT,mk]
 rw [if_pos (lsz (by decide))]
noncomputable def cE6:FE:=(Zo .z (Za (Zf (Zk "Unfit" Zaz) (Za (vE 0) (Za (fnE "Unfit") Zb))) (Za (Zf (Zk "Nothing" Zau) (Za (vE 0) (Za (fnE "Nothing") Zb))) (Za (Zf (Zk "NoText" Zar) (Za (vE 0) (Za (fnE "NoText") Zb))) (Za (Zf (Zk "NoCommand" Zam) (Za (vE 0) (Za (fnE "NoCommand") Zb))) Zb)))))
theorem Zfj (hE:E∈xns) (r:Rho) (m:Store):cE6 (some (.exv E ns xs)::r) m = .ok (.p (.list [.bool (decide (E="Unfit")),.bool (decide (E="Nothing")),.bool (decide (E="NoText")),.bool (decide (E="NoCommand"))])) m:=by
 have qwn:∀m,Zk "Unfit" Zaz [.exv E ns xs,.fn "Unfit"] m=some (.p (.bool (decide (E="Unfit"))),m):=ZL (ZM hE) ns xs
 have quG:∀m,Zk "Nothing" Zau [.exv E ns xs,.fn "Nothing"] m=some (.p (.bool (decide (E="Nothing"))),m):=ZL (ZM hE) ns xs
 have qvU:∀m,Zk "NoText" Zar [.exv E ns xs,.fn "NoText"] m=some (.p (.bool (decide (E="NoText"))),m):=ZL (ZM hE) ns xs
 have qps:∀m,Zk "NoCommand" Zam [.exv E ns xs,.fn "NoCommand"] m=some (.p (.bool (decide (E="NoCommand"))),m):=ZL (ZM hE) ns xs
 have mk:Zh [.p (.bool (decide (E="Unfit"))),.p (.bool (decide (E="Nothing"))),.p (.bool (decide (E="NoText"))),.p (.bool (decide (E="NoCommand")))] = .p (.list [.bool (decide (E="Unfit")),.bool (decide (E="Nothing")),.bool (decide (E="NoText")),.bool (decide (E="NoCommand"))]):=rfl
 simp only [cE6,Zo,Zf,Za,Zb,fnE,Yo,Z5,Yi,qwn,quG,qvU,qps,List.length_cons,List.length_nil,YT,mk]
 rw [if_pos (lsz (by decide))]
end
theorem Zfp:W6=Zi (Zm 1 cE0) (Zi (Zm 1 (opE (Zq .z) (vE 1) cE1)) (Zi (Zm 1 (opE (Zq .z) (vE 1) cE2)) (Zi (Zm 1 (opE (Zq .z) (vE 1) cE3)) (Zi (Zm 1 (opE (Zq .z) (vE 1) cE4)) (Zi (Zm 1 (opE (Zq .z) (vE 1) cE5)) (Zi (Zm 1 (opE (Zq .z) (vE 1) cE6)) (retS (vE 1)))))))):=rfl
theorem Zfn {E:Str} (hE:E∈xns) (ns:List Str) (xs:List D) (G:List Cell):Vb [.exv E ns xs] G = .ok (.p (.list (Y9 E))) G:=by
 have this:Eg (Vb [.exv E ns xs] G) (fun d g=>d = .p (.list (Y9 E))∧g=G) nXg:=by
  rw [Zf7,Zfp]
  have v0:=fun r m=>Zfd (ns:=ns) (xs:=xs) hE r m
  have v1:=fun r m=>Zfe (ns:=ns) (xs:=xs) hE r m
  have v2:=fun r m=>Zff (ns:=ns) (xs:=xs) hE r m
  have v3:=fun r m=>Zfg (ns:=ns) (xs:=xs) hE r m
  have v4:=fun r m=>Zfh (ns:=ns) (xs:=xs) hE r m
  have v5:=fun r m=>Zfi (ns:=ns) (xs:=xs) hE r m
  have v6:=fun r m=>Zfj (ns:=ns) (xs:=xs) hE r m
  generalize cE0=F0 at v0 ⊢
  generalize cE1=F1 at v1 ⊢
  generalize cE2=F2 at v2 ⊢
  generalize cE3=F3 at v3 ⊢
  generalize cE4=F4 at v4 ⊢
  generalize cE5=F5 at v5 ⊢
  generalize cE6=F6 at v6 ⊢
  generalize qvM:decide (E="Parted")=Td at *
  generalize qvN:decide (E="Ringed")=Tf at *
  generalize qvH:decide (E="BadRow")=S8 at *
  generalize qvI:decide (E="Hidden")=S9 at *
  generalize qvK:decide (E="NoSite")=Tc at *
  generalize qwi:decide (E="Wrong")=Nf at *
  generalize qvG:decide (E="BadKey")=S7 at *
  generalize qhn:decide (E="BadReference")=Q6 at *
  generalize qut:decide (E="BadMade")=Sd at *
  generalize quA:decide (E="Unknown")=Ss at *
  generalize qse:decide (E="NotFixed")=XH at *
  generalize quv:decide (E="Missing")=Sq at *
  generalize qus:decide (E="BadItem")=TJ at *
  generalize qsc:decide (E="BadShown")=Sh at *
  generalize quu:decide (E="BadMark")=TQ at *
  generalize qwe:decide (E="Loose")=Dh at *
  generalize qsd:decide (E="NoNumber")=T8 at *
  generalize qwg:decide (E="Twice")=qbA at *
  generalize quz:decide (E="TooMany")=NQ at *
  generalize qwN:decide (E="Full")=qlX at *
  generalize quw:decide (E="NoEntry")=Di at *
  generalize qwf:decide (E="NoUse")=qiq at *
  generalize qvO:decide (E="Unlike")=qbB at *
  generalize qvJ:decide (E="NoMove")=qbz at *
  generalize qwh:decide (E="Unfit")=qr2 at *
  generalize quy:decide (E="Nothing")=qg7 at *
  generalize qvL:decide (E="NoText")=qlY at *
  generalize qpr:decide (E="NoCommand")=BW at *
  have a1:∀m,Zq .z (.p (.list [.bool Td,.bool Tf,.bool S8,.bool S9])) (.p (.list [.bool Tc,.bool Nf,.bool S7,.bool Q6])) m=some (.p (.list [.bool Td,.bool Tf,.bool S8,.bool S9,.bool Tc,.bool Nf,.bool S7,.bool Q6]),m):=fun m=>Vz rfl m
  have a2:∀m,Zq .z (.p (.list [.bool Td,.bool Tf,.bool S8,.bool S9,.bool Tc,.bool Nf,.bool S7,.bool Q6])) (.p (.list [.bool Sd,.bool Ss,.bool XH,.bool Sq])) m=some (.p (.list [.bool Td,.bool Tf,.bool S8,.bool S9,.bool Tc,.bool Nf,.bool S7,.bool Q6,.bool Sd,.bool Ss,.bool XH,.bool Sq]),m):=fun m=>Vz rfl m
  have a3:∀m,Zq .z (.p (.list [.bool Td,.bool Tf,.bool S8,.bool S9,.bool Tc,.bool Nf,.bool S7,.bool Q6,.bool Sd,.bool Ss,.bool XH,.bool Sq])) (.p (.list [.bool TJ,.bool Sh,.bool TQ,.bool Dh])) m=some (.p (.list [.bool Td,.bool Tf,.bool S8,.bool S9,.bool Tc,.bool Nf,.bool S7,.bool Q6,.bool Sd,.bool Ss,.bool XH,.bool Sq,.bool TJ,.bool Sh,.bool TQ,.bool Dh]),m):=fun m=>Vz rfl m
  have a4:∀m,Zq .z (.p (.list [.bool Td,.bool Tf,.bool S8,.bool S9,.bool Tc,.bool Nf,.bool S7,.bool Q6,.bool Sd,.bool Ss,.bool XH,.bool Sq,.bool TJ,.bool Sh,.bool TQ,.bool Dh])) (.p (.list [.bool T8,.bool qbA,.bool NQ,.bool qlX])) m=some (.p (.list [.bool Td,.bool Tf,.bool S8,.bool S9,.bool Tc,.bool Nf,.bool S7,.bool Q6,.bool Sd,.bool Ss,.bool XH,.bool Sq,.bool TJ,.bool Sh,.bool TQ,.bool Dh,.bool T8,.bool qbA,.bool NQ,.bool qlX]),m):=fun m=>Vz rfl m
  have a5:∀m,Zq .z (.p (.list [.bool Td,.bool Tf,.bool S8,.bool S9,.bool Tc,.bool Nf,.bool S7,.bool Q6,.bool Sd,.bool Ss,.bool XH,.bool Sq,.bool TJ,.bool Sh,.bool TQ,.bool Dh,.bool T8,.bool qbA,.bool NQ,.bool qlX])) (.p (.list [.bool Di,.bool qiq,.bool qbB,.bool qbz])) m=some (.p (.list [.bool Td,.bool Tf,.bool S8,.bool S9,.bool Tc,.bool Nf,.bool S7,.bool Q6,.bool Sd,.bool Ss,.bool XH,.bool Sq,.bool TJ,.bool Sh,.bool TQ,.bool Dh,.bool T8,.bool qbA,.bool NQ,.bool qlX,.bool Di,.bool qiq,.bool qbB,.bool qbz]),m):=fun m=>Vz rfl m
  have a6:∀m,Zq .z (.p (.list [.bool Td,.bool Tf,.bool S8,.bool S9,.bool Tc,.bool Nf,.bool S7,.bool Q6,.bool Sd,.bool Ss,.bool XH,.bool Sq,.bool TJ,.bool Sh,.bool TQ,.bool Dh,.bool T8,.bool qbA,.bool NQ,.bool qlX,.bool Di,.bool qiq,.bool qbB,.bool qbz])) (.p (.list [.bool qr2,.bool qg7,.bool qlY,.bool BW])) m=some (.p (.list [.bool Td,.bool Tf,.bool S8,.bool S9,.bool Tc,.bool Nf,.bool S7,.bool Q6,.bool Sd,.bool Ss,.bool XH,.bool Sq,.bool TJ,.bool Sh,.bool TQ,.bool Dh,.bool T8,.bool qbA,.bool NQ,.bool qlX,.bool Di,.bool qiq,.bool qbB,.bool qbz,.bool qr2,.bool qg7,.bool qlY,.bool BW]),m):=fun m=>Vz rfl m
  have ec:Y9 E=[.bool Td,.bool Tf,.bool S8,.bool S9,.bool Tc,.bool Nf,.bool S7,.bool Q6,.bool Sd,.bool Ss,.bool XH,.bool Sq,.bool TJ,.bool Sh,.bool TQ,.bool Dh,.bool T8,.bool qbA,.bool NQ,.bool qlX,.bool Di,.bool qiq,.bool qbB,.bool qbz,.bool qr2,.bool qg7,.bool qlY,.bool BW]:=by
   show [PyData.bool (decide (E="Parted")),PyData.bool (decide (E="Ringed")),PyData.bool (decide (E="BadRow")),PyData.bool (decide (E="Hidden")),PyData.bool (decide (E="NoSite")),PyData.bool (decide (E="Wrong")),PyData.bool (decide (E="BadKey")),PyData.bool (decide (E="BadReference")),PyData.bool (decide (E="BadMade")),PyData.bool (decide (E="Unknown")),PyData.bool (decide (E="NotFixed")),PyData.bool (decide (E="Missing")),PyData.bool (decide (E="BadItem")),PyData.bool (decide (E="BadShown")),PyData.bool (decide (E="BadMark")),PyData.bool (decide (E="Loose")),PyData.bool (decide (E="NoNumber")),PyData.bool (decide (E="Twice")),PyData.bool (decide (E="TooMany")),PyData.bool (decide (E="Full")),PyData.bool (decide (E="NoEntry")),PyData.bool (decide (E="NoUse")),PyData.bool (decide (E="Unlike")),PyData.bool (decide (E="NoMove")),PyData.bool (decide (E="Unfit")),PyData.bool (decide (E="Nothing")),PyData.bool (decide (E="NoText")),PyData.bool (decide (E="NoCommand"))]=_
   rw [qvM,qvN,qvH,qvI,qvK,qwi,qvG,qhn,qut,quA,qse,quv,qus,qsc,quu,qwe,qsd,qwg,quz,qwN,quw,qwf,qvO,qvJ,qwh,quy,qvL,qpr]
  rw [ec]
  wp_walk using v0,v1,v2,v3,v4,v5,v6,a1,a2,a3,a4,a5,a6
  all_goals first | exact ⟨rfl,rfl⟩ | exact ⟨rfl,rfl,rfl⟩ | rfl
 obtain ⟨d,g,e,rfl,rfl⟩:=this.get
 exact e
theorem Zbb {k:Nat}:∀{ds:List PyData},(∀d∈ds,d.depth≤k)→PyData.depthAll ds≤k
 | [],_=>Nat.zero_le _
 | d::ds,h=>by
  simp only [PyData.depthAll]
  exact Nat.max_le.mpr ⟨h d (List.mem_cons_self ..),Zbb fun x hx=>h x (List.mem_cons_of_mem _ hx)⟩
/-- what may stand in a list that is compared with itself -/
structure Smx (k n:Nat) (x:D):Prop where
 dp:∀p,x = .p p→p.depth≤k
 sm:smD n x=true
theorem Zcp {k n:Nat} {xs:List D} (h:∀x∈xs,Smx k n x) (hk:k+1≤30):Smx (k+1) (n+1) (Zh xs):=by
 unfold Zh
 split
 ·rename_i ds e
  have hx:=YZ e
  have hd:∀d∈ds,d.depth≤k:=fun d hd=>(h (.p d) (by rw [hx];exact List.mem_map.mpr ⟨d,hd,rfl⟩)).dp d rfl
  have h1:(PyData.list ds).depth≤k+1:=by
   have:=Zbb hd
   simp only [PyData.depth]
   omega
  refine ⟨fun p e=>?_,?_⟩
  ·cases e
   exact h1
  ·simp only [smD]
   exact decide_eq_true (by omega)
 ·refine ⟨(fun p e=>by cases e),?_⟩
  simp only [smD]
  exact List.all_eq_true.mpr fun x hx=>(h x hx).sm
theorem Zf4 {k:Nat} {xs:List D} (h:∀x∈xs,Smx k 6 x) (hk:k+1≤30) (m:Store):Jp (Zh xs) (Zh xs) m=some (.p (.bool true),m):=by
 unfold Zh
 split
 ·rename_i ds e
  have hx:=YZ e
  have hd:∀d∈ds,d.depth≤k:=fun d hd=>(h (.p d) (by rw [hx];exact List.mem_map.mpr ⟨d,hd,rfl⟩)).dp d rfl
  have h1:(PyData.list ds).depth=PyData.depthAll ds+1:=rfl
  have h2:=Zbb hd
  have e1:Vg (.p (.list ds)) (.p (.list ds)) m=none:=rfl
  have e2:Vf (.p (.list ds)) (.p (.list ds)) m=some (.p (.bool true),m):=by
   unfold Vf
   dsimp only
   rw [if_pos ⟨rfl,by omega,by omega⟩]
  simp only [Jp,ZX,e1,e2]
 ·have e1:Vg (.lst xs) (.lst xs) m=some (.p (.bool true),m):=by
   unfold Vg
   dsimp only
   rw [if_pos ⟨rfl,List.all_eq_true.mpr fun x hx=>(h x hx).sm⟩]
  simp only [Jp,ZX,e1]
theorem Zf5 (s:Str) (m:Store):Jp (.p (.str s)) (.p (.str s)) m=some (.p (.bool true),m):=by
 have e1:Vg (.p (.str s)) (.p (.str s)) m=none:=rfl
 have e2:Vf (.p (.str s)) (.p (.str s)) m=none:=by
  unfold Vf
  dsimp only
  rw [if_neg (by intro z;exact absurd z.2.2 (by simp [PyData.depth]))]
 have e3:eqG false (.p (.str s)) (.p (.str s)) m=some (.p (.bool true),m):=by
  simp only [Zf1,Bool.false_eq_true,if_false,beq_self_eq_true]
 simp only [Jp,ZX,e1,e2,e3]
theorem Kl {m:Store} {k:Nat} {xs:List D} {ps:List PyData} (h:Yg (deep m k) xs=some ps):deep m (k+1) (Zh xs)=some (.list ps):=by
 unfold Zh
 split
 ·rename_i ds e
  have hx:=YZ e
  rw [hx,Kh] at h
  cases h
  rfl
 ·simp only [deep,h,Option.map_some]
theorem Zbg {f:D→Option PyData} {d:D} {p:PyData} (h:f d=some p):∀n:Nat,Yg f (List.replicate n d)=some (List.replicate n p)
 | 0=>rfl
 | n+1=>by simp only [List.replicate_succ,Yg,h,Zbg h n]
section
variable {n:Nat} {G:List Cell} {C:Cell} {a b c:D} {pa pb pc:PyData}
theorem Thg.smx (h:Thg n G a pa) (k:Nat):Smx 3 k a:=by
 refine ⟨fun p e=>?_,h.sm k⟩
 cases h with
 | p p h hs=>cases e;exact h.dp
 | _=>cases e
theorem Zj5 (ha:Thg n G a pa) (hb:Thg n G b pb) (hc:Thg n G c pc):∀x∈[Zh (List.replicate 21 a),Zh (List.replicate 5 b),Zh [c]],Smx 4 6 x:=by
 intro x hx
 simp only [List.mem_cons,List.not_mem_nil,or_false] at hx
 rcases hx with rfl | rfl | rfl
 ·exact Zcp (k:=3) (n:=5) (fun x hx=>by rw [(List.mem_replicate.mp hx).2];exact ha.smx 5) (by omega)
 ·exact Zcp (k:=3) (n:=5) (fun x hx=>by rw [(List.mem_replicate.mp hx).2];exact hb.smx 5) (by omega)
 ·exact Zcp (k:=3) (n:=5) (fun x hx=>by rw [List.mem_singleton.mp hx];exact hc.smx 5) (by omega)
theorem Zj6 (ha:Thg n G a pa) (hb:Thg n G b pb) (hc:Thg n G c pc):whole ⟨C::G,[]⟩ (Vd a b c)=some (.list [.list (List.replicate 21 pa),.list (List.replicate 5 pb),.list [pc]]):=by
 have d1:deep ⟨C::G,[]⟩ 7 (Zh (List.replicate 21 a))=some (.list (List.replicate 21 pa)):=Kl (Zbg (ha.deep (k:=5)) 21)
 have d2:deep ⟨C::G,[]⟩ 7 (Zh (List.replicate 5 b))=some (.list (List.replicate 5 pb)):=Kl (Zbg (hb.deep (k:=5)) 5)
 have d3:deep ⟨C::G,[]⟩ 7 (Zh [c])=some (.list [pc]):=Kl (by simp only [Yg,hc.deep (k:=5)])
 unfold Vd whole
 exact Kl (by simp only [Yg,d1,d2,d3])
theorem Zj4 (hn:n≤10) (ha:Thg n G a pa) (hb:Thg n G b pb) (hc:Thg n G c pc):Fit 5 300000 (.list [.list (List.replicate 21 pa),.list (List.replicate 5 pb),.list [pc]]):=by
 refine (Fit.list (d:=4) (n:=70000) (k:=3) (fun x hx=>?_) (by simp)).mono (Nat.le_refl _) (by decide)
 simp only [List.mem_cons,List.not_mem_nil,or_false] at hx
 rcases hx with rfl | rfl | rfl
 ·exact (Fit.list (d:=3) (n:=3000) (k:=21) (fun x hx=>by rw [(List.mem_replicate.mp hx).2];exact ha.ft hn) (by simp)).mono (Nat.le_refl _) (by decide)
 ·exact (Fit.list (d:=3) (n:=3000) (k:=5) (fun x hx=>by rw [(List.mem_replicate.mp hx).2];exact hb.ft hn) (by simp)).mono (Nat.le_refl _) (by decide)
 ·exact (Fit.list (d:=3) (n:=3000) (k:=1) (fun x hx=>by rw [List.mem_singleton.mp hx];exact hc.ft hn) (by simp)).mono (Nat.le_refl _) (by decide)
theorem Ze6 (hn:n≤10) (ha:Thg n G a pa) (hb:Thg n G b pb) (hc:Thg n G c pc):U9 [Vd a b c,Vd a b c] (C::G) = .ok (.p (.bool true)) (C::G):=by
 have e1:∀m,Jp (Vd a b c) (Vd a b c) m=some (.p (.bool true),m):=Zf4 (Zj5 ha hb hc) (by omega)
 have e2:=ZiH (Zj6 (C:=C) ha hb hc) (Zj4 hn ha hb hc) (by decide) (by decide)
 rw [Zf6]
 simp only [W4,retS,Za3,Y0,Zf,Za,Zb,Yo,Jx,Z5,e1,Yi,ZaU,e2,Zf5,Jj,Zbw]
 try rfl
end
theorem Zgg (a b c:D):(errs a b c).map Jq=names28.map some:=rfl
def Zg7:D→Bool
 | .exv _ _ _=>true
 | _=>false
theorem Zgf (a b c:D):(errs a b c).all Zg7=true:=rfl
theorem Zdv {a b c d:D} {k:Nat} (h:(errs a b c)[k]?=some d):∃E ns xs,d = .exv E ns xs∧names28[k]?=some E:=by
 have h1:=List.all_eq_true.mp (Zgf a b c) d (List.mem_of_getElem? h)
 have h2:((errs a b c).map Jq)[k]?=some (Jq d):=by rw [List.getElem?_map,h];rfl
 rw [Zgg,List.getElem?_map] at h2
 cases d with
 | exv E ns xs =>
  refine ⟨E,ns,xs,rfl,?_⟩
  cases h3:names28[k]? with
  | none=>rw [h3] at h2;cases h2
  | some F =>
   rw [h3] at h2
   cases h2
   rfl
 | _=>exact absurd h1 Bool.false_ne_true
theorem ZhP:∀E∈names28,E∈xns:=by
 have:names28.all (fun E=>decide (E∈xns))=true:=by decide +kernel
 intro E hE
 exact of_decide_eq_true (List.all_eq_true.mp this E hE)
def V5 (k:Nat):List Bool:=(List.range 28).map fun j=>decide (j=k)
theorem Zfq {k:Nat} {E:Str} (h:names28[k]?=some E):Y9 E=(V5 k).map .bool:=by
 have t:((List.range 28).all fun k=>match names28[k]? with
  | some E=>(names28.map fun C=>decide (E=C)) == V5 k
  | none=>false)=true:=by decide +kernel
 have hk:k < 28:=(List.getElem?_eq_some_iff.mp h).1
 have:=List.all_eq_true.mp t k (List.mem_range.mpr hk)
 rw [h] at this
 have e:=eq_of_beq this
 unfold Y9
 rw [←e,List.map_map]
 rfl
theorem Zba:∀bs:List Bool,PyData.canLayAll0 (bs.map .bool)=true∧PyData.depthAll (bs.map .bool)=0∧PyData.eqvAll (bs.map .bool) (bs.map .bool)=true
 | []=>⟨rfl,rfl,rfl⟩
 | b::bs=>by
  obtain ⟨h1,h2,h3⟩:=Zba bs
  refine ⟨?_,?_,?_⟩
  ·simp only [List.map_cons,PyData.canLayAll0,PyData.canLay0,h1,Bool.and_self]
  ·simp only [List.map_cons,PyData.depthAll,PyData.depth,h2,Nat.max_self]
  ·simp only [List.map_cons,PyData.eqvAll,PyData.eqv,beq_self_eq_true,h3,Bool.and_self]
theorem shb (bs:List Bool):SeqAt.shaped (.list (bs.map .bool))=true:=by
 obtain ⟨h1,h2,_⟩:=Zba bs
 unfold SeqAt.shaped
 have e:(PyData.list (bs.map .bool)).depth=1:=by simp only [PyData.depth,h2]
 rw [e]
 simp only [PyData.canLay0,h1]
 rfl
theorem ZhQ (bs:List Bool) (m:Store):eqG true (.p (.list (bs.map .bool))) (.p (.list (bs.map .bool))) m=some (.p (.bool false),m) :=
 Zf2 (neg:=true) (b:=true) (ZaX _ _) (ZaX _ _) (shb bs) (shb bs) (by simp only [PyData.eqv];exact (Zba bs).2.2)
theorem Zfc:Y9 "PlanError"=(List.replicate 28 false).map .bool:=by
 have t:(names28.map fun C=>decide ((Str.ofString "PlanError")=C))=List.replicate 28 false:=by decide +kernel
 unfold Y9
 rw [←t,List.map_map]
 rfl
theorem Zg4 (m:Store):inG (.p (.bool true)) (.p (.list (Y9 "PlanError"))) m=some (.p (.bool false),m):=by
 rw [Zfc]
 have e0:KQ false (.p (.bool true)) (.p (.list ((List.replicate 28 false).map .bool))) m=none:=rfl
 have e2:inL false (.p (.bool true)) (.p (.list ((List.replicate 28 false).map .bool))) m=some (.p (.bool false),m):=by
  simp only [inL,ZaX,shb]
  rfl
 have e3:KR false (.p (.bool true)) (.p (.list ((List.replicate 28 false).map .bool))) m=none:=rfl
 refine WY ?_
 simp only [inD,ZX,e0,e2,e3]
abbrev JL:PyData := .str (Str.ofString "new")
theorem Zde {den:Den} {ds:List D} {g l:List Cell} {p:PyData} (hn:nls ds=true) (h:den ds g = .ok (.p p) g):YL den ds ⟨g,l⟩ = .ok (.p p) ⟨g,l⟩:=by
 unfold YL
 rw [hn,if_pos rfl]
 show (den ds g).res l=_
 rw [h]
 rfl
theorem Vl {xs:List D} {k:Int} {d:D} (h0:0≤k) (e:xs[k.toNat]?=some d) (m:Store):ixG (Zh xs) (.p (.int k)) m=some (d,m):=by
 unfold Zh
 split
 ·rename_i ds hx
  rw [YZ hx,List.getElem?_map] at e
  cases h:ds[k.toNat]? with
  | none=>rw [h] at e;cases e
  | some p =>
   rw [h] at e
   cases e
   exact ZbM h0 h
 ·exact ZdQ h0 e m
theorem ZiP (xs:List D) (m:Store):Y5 (Zh xs) m=some (xs,fun _=>True):=by
 unfold Zh
 split
 ·rename_i ds hx
  rw [YZ hx]
  rfl
 ·rfl
theorem Zd8 (d:D) {n:Int} (h0:0≤n) (h1:n≤1000) (m:Store):Vo .z (Zh [d]) (.p (.int n)) m=some (Zh (List.replicate n.toNat d),m):=by
 have e1:V1 (Zh [d]) (.p (.int n)) m=none:=by
  unfold Zh
  split <;> rfl
 have e2:Wv .z (Zh [d]) (.p (.int n)) m=some (Zh (List.replicate n.toNat d),m):=by
  simp only [Wv,Zd4]
  rw [if_pos ⟨by omega,by omega,by rw [sizeLine_eq];simp;omega⟩,List.flatten_replicate_singleton]
  rfl
 unfold Vo ZX
 rw [e1]
 exact e2
theorem ZdM {p:PyData} (h:Zck p=false) (m:Store):Yt [.p p,.ty "list"] m=some (.p (.bool false),m)∧Yt [.p p,.ty "dict"] m=some (.p (.bool false),m):=by
 cases p <;> first | exact ⟨rfl,rfl⟩ | exact absurd h (by simp [Zck])
theorem ZhF (C:Str) (f:FE) (ρ:Rho) (m:Store):Yu C (Za f Zb) ρ m=(f ρ m).bind fun d m1 => .ok (.exv C [] []) m1:=by
 simp only [Yu,Za,Zb]
 cases f ρ m <;> rfl
section
variable {cs:List PyData} {G:List Cell} {C:Cell} {N:Rho→Store→Prop} {R:D→Store→Prop} {Y:Exn→Rho→Store→Prop} {x0 x1 x2 x3 x4 x5 x6 x7 x8 x9 x10:Option D} {n:Nat} {a b c d:D}
theorem Zho (h:Th n G d) (k:∀G',(∀d',Th n G d'→Th (n+1) G' d')→N [x0,x1,x2,x3,x4,x5,x6,some d,x8,x9,x10] ⟨C::G',[]⟩) (hn:n≤100) :
  Es (K6 [x0,x1,x2,x3,x4,x5,x6,some d,x8,x9,x10] ⟨C::G,[]⟩) N R Y:=by
 obtain ⟨p,h⟩:=h
 unfold K6
 cases h with
 | p p hf hs =>
  have i1:=fun m=>(ZdM hs m).1
  have i2:=fun m=>(ZdM hs m).2
  wp_walk using tyE,i1,i2
  exact k G fun d' h=>h.mono (Nat.le_succ n)
 | l j xs a b c =>
  have ha:(⟨C::G,[]⟩:Store).at_ (.g (j+1))=some (.lst (xs.map D.p)):=a
  have jl:=(List.getElem?_eq_some_iff.mp a).1
  have ap:VB (.cell (.g (j+1))) [.p JL] ⟨C::G,[]⟩=some (.p .none,⟨C::G.set j (.lst ((xs++[JL]).map D.p)),[]⟩):=by
   rw [Ze7 ha (by rw [List.length_map];omega),List.map_append]
   rfl
  have i1:Yt [.cell (.g (j+1)),.ty "list"] ⟨C::G,[]⟩=some (.p (.bool true),⟨C::G,[]⟩):=by
   simp only [Yt,tyN,ha]
   rfl
  have t1:JF "list" (.cell (.g (j+1))) ⟨C::G,[]⟩=true:=by
   simp only [JF,Ym,ha]
   rfl
  have hb:(⟨C::G.set j (.lst ((xs++[JL]).map D.p)),[]⟩:Store).at_ (.g (j+1))=some (.lst ((xs++[JL]).map D.p)):=List.getElem?_set_self jl
  have i2:Yt [.cell (.g (j+1)),.ty "dict"] ⟨C::G.set j (.lst ((xs++[JL]).map D.p)),[]⟩=some (.p (.bool false),⟨C::G.set j (.lst ((xs++[JL]).map D.p)),[]⟩):=by
   simp only [Yt,tyN,hb]
   rfl
  have w:Fit 2 60 JL:=VM (by decide +kernel)
  generalize hG:G.set j (.lst ((xs++[JL]).map D.p))=G' at ap i2
  wp_walk using tyE,i1,t1,ap,i2
  exact k G' fun d' h=>by rw [←hG];exact h.qwZ a b c w
 | d j kv a b c =>
  have ha:(⟨C::G,[]⟩:Store).at_ (.g (j+1))=some (.dct (sk kv)):=a
  have i1:Yt [.cell (.g (j+1)),.ty "list"] ⟨C::G,[]⟩=some (.p (.bool false),⟨C::G,[]⟩):=by
   simp only [Yt,tyN,ha]
   rfl
  have i2:Yt [.cell (.g (j+1)),.ty "dict"] ⟨C::G,[]⟩=some (.p (.bool true),⟨C::G,[]⟩):=by
   simp only [Yt,tyN,ha]
   rfl
  have sg:setG (.cell (.g (j+1))) (.p (.str (Str.ofString "b"))) (.p (.int 2)) ⟨C::G,[]⟩=some ⟨C::G.set j (.dct (sk (putS kv (Str.ofString "b") (.int 2)))),[]⟩:=by
   rw [ZiR ha (by omega)]
   rfl
  have w:Fit 2 60 (.str (Str.ofString "b")):=VM (by decide +kernel)
  generalize hG:G.set j (.dct (sk (putS kv (Str.ofString "b") (.int 2))))=G' at sg
  wp_walk using tyE,i1,i2,sg
  exact k G' fun d' h=>by rw [←hG];exact h.qw2 a b c w (Zby (by decide))
theorem Zhp (hn:n≤7) (ha:Th n G a) (hb:Th n G b) (hc:Th n G c) (k:∀G' y6 y7,Th (n+3) G' a→Th (n+3) G' b→Th (n+3) G' c→N [x0,x1,x2,some (Zh [a,b,c]),some (.lst (errs a b c)),x5,y6,y7,x8,x9,x10] ⟨C::G',[]⟩) :
  Es (Wo [x0,x1,x2,some (Zh [a,b,c]),some (.lst (errs a b c)),x5,x6,x7,x8,x9,x10] ⟨C::G,[]⟩) N R Y:=by
 have i0:∀m,ixG (Zh [a,b,c]) (.p (.int 0)) m=some (a,m):=Vl (by decide) rfl
 have i1:∀m,ixG (Zh [a,b,c]) (.p (.int 1)) m=some (b,m):=Vl (by decide) rfl
 have i2:∀m,ixG (Zh [a,b,c]) (.p (.int 2)) m=some (c,m):=Vl (by decide) rfl
 have m1:∀m,Vo .z (Zh [a]) (.p (.int 21)) m=some (Zh (List.replicate 21 a),m):=Zd8 a (by decide) (by decide)
 have m2:∀m,Vo .z (Zh [b]) (.p (.int 5)) m=some (Zh (List.replicate 5 b),m):=Zd8 b (by decide) (by decide)
 have vd:Zh [Zh (List.replicate 21 a),Zh (List.replicate 5 b),Zh [c]]=Vd a b c:=rfl
 have sq:∀m,Y5 (Zh [a,b,c]) m=some ([a,b,c],fun _=>True):=ZiP _
 obtain ⟨pa,qa⟩:=id ha
 obtain ⟨pb,qb⟩:=id hb
 obtain ⟨pc,qc⟩:=id hc
 have vn:nl (Vd a b c)=true:=ZeW ha.nl hb.nl hc.nl
 have ln:nl (.lst (errs a b c))=true:=by simp only [errs,nl,nls,ha.nl,hb.nl,hc.nl,Bool.and_self]
 have al:YL U9 [Vd a b c,Vd a b c] ⟨C::G,[]⟩ = .ok (.p (.bool true)) ⟨C::G,[]⟩:=Zde (by simp only [nls,vn,Bool.and_self]) (Ze6 (by omega) qa qb qc)
 have fl:YL VG [.lst (errs a b c)] ⟨C::G,[]⟩ = .ok (Vd a b c) ⟨C::G,[]⟩:=by
  have h:Eg (VG [.lst (errs a b c)] (C::G)) (fun d g=>d=Vd a b c∧g=C::G) nXg:=Zgr ha.nl hb.nl hc.nl ⟨rfl,rfl⟩
  obtain ⟨d,g,e,rfl,rfl⟩:=h.get
  unfold YL
  rw [if_pos (by simp only [nls,ln,Bool.and_self]),e]
  rfl
 obtain ⟨l1,e1⟩:∃r,r=K6:=⟨_,rfl⟩
 unfold Wo
 rw [←e1]
 generalize errs a b c=L at *
 generalize hM:Zh [a,b,c]=M at *
 wp_walk using i0,i1,i2,m1,m2,vd,fl,al,sq
 refine We (fun j ρ m=>∃G' y7,Th (n+j) G' a∧Th (n+j) G' b∧Th (n+j) G' c∧m=⟨C::G',[]⟩∧ρ=[x0,x1,x2,some M,some (.lst L),x5,some (Vd a b c),y7,x8,x9,x10]) ⟨G,_,ha,hb,hc,rfl,rfl⟩ (fun _ _ _ _=>trivial) ?_ ?_
 ·rintro j d hd ρ m ⟨G',y7,h1,h2,h3,rfl,rfl⟩
  have hj:j < 3:=(List.getElem?_eq_some_iff.mp hd).1
  have hd':Th (n+j) G' d:=by
   have:=List.mem_of_getElem? hd
   simp only [List.mem_cons,List.not_mem_nil,or_false] at this
   rcases this with rfl | rfl | rfl
   ·exact h1
   ·exact h2
   ·exact h3
  walk_at "ev"
  rw [e1]
  exact Zho hd' (fun G2 hG=>⟨G2,_,hG _ h1,hG _ h2,hG _ h3,rfl,rfl⟩) (by omega)
 ·rintro ρ m ⟨G',y7,h1,h2,h3,rfl,rfl⟩
  exact k G' _ _ h1 h2 h3
theorem Zec:∀{xs:List D} {d:D},nls xs=true→d∈xs→nl d=true
 | x::xs,d,h,hd=>by
  simp only [nls,Bool.and_eq_true] at h
  rcases List.mem_cons.mp hd with rfl | hd
  ·exact h.1
  ·exact Zec h.2 hd
theorem Zdf {E:Str} (hE:E∈xns) (ns:List Str) (xs:List D) (hx:nls xs=true) (m:Store):YL Vb [.exv E ns xs] m = .ok (.p (.list (Y9 E))) m:=by
 obtain ⟨g,l⟩:=m
 exact Zde (by simp only [nls,nl,hx,Bool.and_self]) (Zfn hE ns xs g)
theorem ZdL {E:Str} (hE:E∈xns) (ns:List Str) (xs:List D) (m:Store):Wm xns [.exv E ns xs,.ty "ValueError"] m=some (.p (.bool true),m):=by
 show (if E∈xns then some (D.p (.bool true),m) else none)=_
 rw [if_pos hE]
theorem Zhq {k:Nat} {m:Store} (ha:nl a=true) (hb:nl b=true) (hc:nl c=true) (hd:(errs a b c)[k]?=some d) (kk:∀y10,N [x0,x1,x2,x3,x4,x5,x6,x7,some (.p (.int (k:Int))),some d,y10] m) :
  Es (Wq [x0,x1,x2,x3,x4,x5,x6,x7,some (.p (.int (k:Int))),some d,x10] m) N R Y:=by
 obtain ⟨E,ns,xs,rfl,hE⟩:=Zdv hd
 have k28:k < 28:=(List.getElem?_eq_some_iff.mp hE).1
 have hx:=ZhP E (List.mem_of_getElem? hE)
 have ln:nls (errs a b c)=true:=by simp only [errs,nl,nls,ha,hb,hc,Bool.and_self]
 have nx:nls xs=true:=by
  have:=Zec ln (List.mem_of_getElem? hd)
  simpa only [nl] using this
 have cl:=Zdf hx ns xs nx
 rw [Zfq hE] at cl
 have ne:=ZhQ (V5 k)
 have p1:∀m,Zk "PlanError" ZbT [.exv E ns xs,.fn "PlanError"] m=some (.p (.bool true),m):=ZL (Zd3 hx) ns xs
 have p2:=ZdL hx ns xs
 unfold Wq
 wp_walk using cl
 refine KJ (by decide) (by decide) ?_
 have er:YJ 0 (28:Int).toNat=(List.range 28).map fun j:Nat=>D.p (.int (j:Int)):=by
  simp [YJ]
 rw [er]
 refine Zdx (by simp) ?_
 rw [JB]
 rw [Zhu (e:=fun j:Nat=>D.p (.int (j:Int))) (f:=fun j:Nat=>D.p (.bool (decide (j=k)))) trivial (fun j hj=>⟨_,rfl,rfl,by
  have e:((j:Int) == (k:Int))=decide (j=k):=by
   by_cases h:j=k
   ·subst h
    rw [decide_eq_true rfl]
    exact beq_self_eq_true _
   ·rw [decide_eq_false h]
    exact beq_eq_false_iff_ne.mpr fun z=>h (by omega)
  simp only [List.set_cons_zero,List.set_cons_succ,Y0,Yo,Jx,Z5,Jo,Bool.false_eq_true,if_false,Yi,e]⟩),KH]
 have mk:Zh ((List.range 28).map fun j=>D.p (.bool (decide (j=k)))) = .p (.list ((V5 k).map .bool)):=by
  rw [ZhK]
  unfold V5
  rw [List.map_map]
  rfl
 rw [mk]
 generalize (V5 k).map PyData.bool=B at ne cl mk ⊢
 wp_walk using ne,fnE,tyE,p1,p2,L2.Dn.orT
 exact kk _
theorem Zhr {m:Store} (kk:N [x0,x1,x2,x3,x4,x5,x6,x7,x8,some (.exv "PlanError" [] []),x10] m) :
  Es (Wr [x0,x1,x2,x3,x4,x5,x6,x7,x8,some (.exv "PlanError" [] []),x10] m) N R Y:=by
 have hx:(Str.ofString "PlanError")∈xns:=List.mem_cons_self ..
 have cl:=Zdf hx [] [] rfl
 have i:=Zg4
 have p2:=ZdL hx [] []
 generalize Y9 "PlanError"=B at cl i
 unfold Wr
 wp_walk using cl,i,tyE,p2,L2.Dn.orT
 exact kk
end
section
variable {cs:List PyData} {G:List Cell} {C:Cell} {N:Rho→Store→Prop} {R:D→Store→Prop} {Y:Exn→Rho→Store→Prop} {x0 x2 x3 x4 x5 x6 x7 x8 x9 x10:Option D}
noncomputable def lwE:FS:=qpq (qkt (Zo .z (Za (Yu "PlanError" (Za (opE ixG (vE 3) (cE (.int 0))) Zb)) (Za (Yd "PlanError") (Za (Yu "PlanError" (Za (cE (.str (Str.ofString "a"))) (Za (cE (.int 1)) Zb))) Zb))))) (YD 9) Wr
noncomputable def lwD:FS:=qpq (qpp (Za (vE 4) Zb)) (Vv 2 (Jy (YD 8) (Jy (YD 9) nilG))) Wq
noncomputable def lwC:FS:=qpq (qrS (JR (Za (cE (.int 2)) Zb))) (YD 5) Wo
theorem ZhE:K7=(Zi (Zm 3 (lcW .z [10] (qrS (JR (Za (cE (.int 3)) Zb))) (Ju 10) Ji Kc))
 (Zi (Zm 4 (Ys Wb (Za (opE ixG (vE 3) (cE (.int 0))) (Za (opE ixG (vE 3) (cE (.int 1))) (Za (opE ixG (vE 3) (cE (.int 2))) Zb)))))
 (Zi lwC (Zi lwD lwE)))):=rfl
variable {a b c:D} {n:Nat}
theorem ZhG (f:FE) (ρ:Rho) (m:Store):Yu "PlanError" (Za (cE (.str (Str.ofString "a"))) (Za (cE (.int 1)) Zb)) ρ m = .ok (.exv "PlanError" [] []) m:=rfl
theorem ZhD {m:Store} (kk:∀y9,N [x0,some (.cell (.g 0)),x2,some (Zh [a,b,c]),x4,x5,x6,x7,x8,y9,x10] m) :
  Es (lwE [x0,some (.cell (.g 0)),x2,some (Zh [a,b,c]),x4,x5,x6,x7,x8,x9,x10] m) N R Y:=by
 have i0:∀m,ixG (Zh [a,b,c]) (.p (.int 0)) m=some (a,m):=Vl (by decide) rfl
 have ev:∀ρ m,ρ[3]?=some (some (Zh [a,b,c]))→(Zo .z (Za (Yu "PlanError" (Za (opE ixG (vE 3) (cE (.int 0))) Zb)) (Za (Yd "PlanError") (Za (Yu "PlanError" (Za (cE (.str (Str.ofString "a"))) (Za (cE (.int 1)) Zb))) Zb)))) ρ m = .ok (.lst [.exv "PlanError" [] [],.exv "PlanError" [] [],.exv "PlanError" [] []]) m:=fun ρ m h=>by
  have e1:Yu "PlanError" (Za (opE ixG (vE 3) (cE (.int 0))) Zb) ρ m = .ok (.exv "PlanError" [] []) m:=by
   rw [ZhF]
   simp only [Y0,vE,h,Z5,cE,i0,Yi]
  have e2:∀m,Yd "PlanError" ρ m = .ok (.exv "PlanError" [] []) m:=fun _=>rfl
  have e3:=ZhG (vE 0) ρ
  have mk:Zh [.exv "PlanError" [] [],.exv "PlanError" [] [],.exv "PlanError" [] []] = .lst [.exv "PlanError" [] [],.exv "PlanError" [] [],.exv "PlanError" [] []]:=rfl
  generalize Yu "PlanError" (Za (cE (.str (Str.ofString "a"))) (Za (cE (.int 1)) Zb))=F3 at e3 ⊢
  generalize Yu "PlanError" (Za (opE ixG (vE 3) (cE (.int 0))) Zb)=F1 at e1 ⊢
  simp only [Zo,Za,Zb,Z5,e1,e2,e3,List.length_cons,List.length_nil,YT,mk]
  rw [if_pos (lsz (by decide))]
 have e:=ev [x0,some (.cell (.g 0)),x2,some (Zh [a,b,c]),x4,x5,x6,x7,x8,x9,x10] m rfl
 obtain ⟨l4,e4⟩:∃r,r=Wr:=⟨_,rfl⟩
 unfold lwE
 rw [←e4]
 generalize (Zo .z (Za (Yu "PlanError" (Za (opE ixG (vE 3) (cE (.int 0))) Zb)) (Za (Yd "PlanError") (Za (Yu "PlanError" (Za (cE (.str (Str.ofString "a"))) (Za (cE (.int 1)) Zb))) Zb))):FE)=F at e ⊢
 generalize Zh [a,b,c]=M at *
 have sq:∀m,Y5 (.lst [.exv "PlanError" [] [],.exv "PlanError" [] [],.exv "PlanError" [] []]) m=some ([.exv "PlanError" [] [],.exv "PlanError" [] [],.exv "PlanError" [] []],fun _=>True):=fun _=>rfl
 wp_walk using e,sq
 refine We (fun j ρ m'=>m'=m∧∃y9,ρ=[x0,some (.cell (.g 0)),x2,some M,x4,x5,x6,x7,x8,y9,x10]) ⟨rfl,_,rfl⟩ (fun _ _ _ _=>trivial) ?_ ?_
 ·rintro j d hd ρ m' ⟨rfl,y9,rfl⟩
  have hd':d = .exv "PlanError" [] []:=by
   have:=List.mem_of_getElem? hd
   simp only [List.mem_cons,List.not_mem_nil,or_false] at this
   rcases this with rfl | rfl | rfl <;> rfl
  subst hd'
  walk_at "ev"
  rw [e4]
  exact Zhr ⟨rfl,_,rfl⟩
 ·rintro ρ m' ⟨rfl,y9,rfl⟩
  exact kk _
theorem ZhC {m:Store} (ha:nl a=true) (hb:nl b=true) (hc:nl c=true) (kk:∀y8 y9 y10,N [x0,some (.cell (.g 0)),x2,x3,some (.lst (errs a b c)),x5,x6,x7,y8,y9,y10] m) :
  Es (lwD [x0,some (.cell (.g 0)),x2,x3,some (.lst (errs a b c)),x5,x6,x7,x8,x9,x10] m) N R Y:=by
 obtain ⟨l3,e3⟩:∃r,r=Wq:=⟨_,rfl⟩
 unfold lwD
 rw [←e3]
 obtain ⟨L,hL⟩:∃L,L=errs a b c:=⟨_,rfl⟩
 have sq:∀m,Y5 (.lst L) m=some (L,fun _=>True):=fun _=>rfl
 rw [←hL]
 wp_walk using sq
 refine We (fun j ρ m'=>m'=m∧∃y8 y9 y10,ρ=[x0,some (.cell (.g 0)),x2,x3,some (.lst L),x5,x6,x7,y8,y9,y10]) ⟨rfl,_,_,_,rfl⟩ (fun _ _ _ _=>trivial) ?_ ?_
 ·rintro j d hd ρ m' ⟨rfl,y8,y9,y10,rfl⟩
  obtain ⟨d0,h0,rfl⟩:=Zca _ _ _ _ hd
  rw [Nat.zero_add]
  rw [hL] at h0
  obtain ⟨E,ns,xs,rfl,hE⟩:=Zdv h0
  have mt:Yj [D.p (.int ((j:Nat):Int)),.exv E ns xs] = .tup [D.p (.int ((j:Nat):Int)),.exv E ns xs]:=rfl
  rw [mt]
  walk_at "ev"
  rw [e3,hL]
  exact Zhq ha hb hc h0 fun y10=>⟨rfl,_,_,_,rfl⟩
 ·rintro ρ m' ⟨rfl,y8,y9,y10,rfl⟩
  rw [hL]
  exact kk _ _ _
theorem ZhB (ha:Th 0 G a) (hb:Th 0 G b) (hc:Th 0 G c) (kk:∀G' y5 y6 y7,Th 6 G' a→Th 6 G' b→Th 6 G' c→N [x0,some (.cell (.g 0)),x2,some (Zh [a,b,c]),some (.lst (errs a b c)),y5,y6,y7,x8,x9,x10] ⟨C::G',[]⟩) :
  Es (lwC [x0,some (.cell (.g 0)),x2,some (Zh [a,b,c]),some (.lst (errs a b c)),x5,x6,x7,x8,x9,x10] ⟨C::G,[]⟩) N R Y:=by
 obtain ⟨l2,e2⟩:∃r,r=Wo:=⟨_,rfl⟩
 unfold lwC
 rw [←e2]
 obtain ⟨L,hL⟩:∃L,L=errs a b c:=⟨_,rfl⟩
 obtain ⟨M,hM⟩:∃M,M=Zh [a,b,c]:=⟨_,rfl⟩
 rw [←hL,←hM]
 walk_at "ev"
 refine KJ (by decide) (by decide) ?_
 refine We (fun j ρ m'=>∃G' y5 y6 y7,Th (3*j) G' a∧Th (3*j) G' b∧Th (3*j) G' c∧m'=⟨C::G',[]⟩∧ρ=[x0,some (.cell (.g 0)),x2,some M,some (.lst L),y5,y6,y7,x8,x9,x10]) ⟨G,_,_,_,ha,hb,hc,rfl,rfl⟩ (fun _ _ _ _=>trivial) ?_ ?_
 ·rintro j d hd ρ m' ⟨G',y5,y6,y7,h1,h2,h3,rfl,rfl⟩
  obtain ⟨hj,rfl⟩:=ZiI hd
  have hj:j < 2:=hj
  walk_at "ev"
  rw [e2,hL,hM]
  exact Zhp (n:=3*j) (by omega) h1 h2 h3 fun G2 y6 y7 q1 q2 q3=>⟨G2,_,_,_,q1,q2,q3,rfl,rfl⟩
 ·rintro ρ m' ⟨G',y5,y6,y7,h1,h2,h3,rfl,rfl⟩
  rw [hL,hM]
  exact kk G' _ _ _ h1 h2 h3
theorem Zj3 (hC:YG cs C) (k:∀C' J' y3 y4 y5 y6 y7 y8 y9 y10,YG cs C'→N [x0,some (.cell (.g 0)),x2,y3,y4,y5,y6,y7,y8,y9,y10] ⟨C'::J',[]⟩) :
  Es (K7 [x0,some (.cell (.g 0)),x2,x3,x4,x5,x6,x7,x8,x9,x10] ⟨C::G,[]⟩) N R Y:=by
 obtain ⟨lC,eC⟩:∃r,r=lwC:=⟨_,rfl⟩
 obtain ⟨lD,eD⟩:∃r,r=lwD:=⟨_,rfl⟩
 obtain ⟨lE,eE⟩:∃r,r=lwE:=⟨_,rfl⟩
 obtain ⟨c1,e1⟩:∃r,r=Kc:=⟨_,rfl⟩
 rw [ZhE,←eC,←eD,←eE,←e1]
 walk_at "ev"
 refine KJ (by decide) (by decide) ?_
 refine Zdx (by simp [YJ]) ?_
 rw [JB]
 refine Zgh (fun j acc m=>∃(C':Cell) (J:List Cell),acc.length=j∧(∀d∈acc,Th 0 (G++J) d)∧YG cs C'∧m=⟨C'::(G++J),[]⟩) ⟨C,[],rfl,by simp,hC,by rw [List.append_nil]⟩ (fun _ _ _ _=>trivial) ?_ ?_
 ·rintro j d hd acc m ⟨C',J,hl,hA,hC',rfl⟩
  refine ⟨_,rfl,?_⟩
  rw [e1]
  unfold Kc
  wp_walk using Ji
  refine ZjX hC' fun d C2 J2 td hC2=>?_
  rw [List.append_assoc] at td ⊢
  walk_at "ev"
  refine ⟨C2,J++J2,by simp [hl],fun x hx=>?_,hC2,rfl⟩
  rcases List.mem_append.mp hx with hx | hx
  ·have:=(hA x hx).app J2
   rwa [List.append_assoc] at this
  ·rw [List.mem_singleton.mp hx]
   exact td
 ·rintro ys m ⟨C',J,hl,hA,hC',rfl⟩
  have hl:ys.length=3:=hl
  obtain ⟨a,b,c,rfl⟩:∃a b c,ys=[a,b,c]:=by
   match ys,hl with
   | [a,b,c],_=>exact ⟨a,b,c,rfl⟩
  have ha:=hA a (by simp)
  have hb:=hA b (by simp)
  have hc:=hA c (by simp)
  have i0:∀m,ixG (Zh [a,b,c]) (.p (.int 0)) m=some (a,m):=Vl (by decide) rfl
  have i1:∀m,ixG (Zh [a,b,c]) (.p (.int 1)) m=some (b,m):=Vl (by decide) rfl
  have i2:∀m,ixG (Zh [a,b,c]) (.p (.int 2)) m=some (c,m):=Vl (by decide) rfl
  have nn:nls [a,b,c]=true:=by simp only [nls,ha.nl,hb.nl,hc.nl,Bool.and_self]
  obtain ⟨M,hM⟩:∃M,M=Zh [a,b,c]:=⟨_,rfl⟩
  rw [←hM] at i0 i1 i2
  rw [←hM]
  wp_walk using i0,i1,i2,nn
  refine Zge ha.nl hb.nl hc.nl ?_
  walk_at "ev"
  rw [eC,hM]
  refine ZhB ha hb hc fun G' y5 y6 y7 h1 h2 h3=>?_
  walk_at "ev"
  rw [eD]
  refine ZhC ha.nl hb.nl hc.nl fun y8 y9 y10=>?_
  walk_at "ev"
  rw [eE]
  exact ZhD fun y9=>k C' G' _ _ _ _ _ _ _ _ hC'
end
theorem qiS (ns:List Int) (h:ns.length≤63):∃g,BX [nums ns] [] = .ok (.p (.bool true)) g:=by
 have this:Eg (BX [nums ns] []) (fun d _=>d = .p (.bool true)) nXg:=by
  have nn:∀r,L2.Dn.nls (nums ns::r)=L2.Dn.nls r:=fun r=>rfl
  rw [Zgc]
  unfold Ka
  obtain ⟨l6,e6⟩:∃r,r=K7:=⟨_,rfl⟩
  rw [←e6]
  walk_at "ev"
  simp only [nn]
  walk_at "ev"
  refine Zfa h fun cs C hC=>?_
  walk_at "ev"
  refine KJ (by decide) (by decide) ?_
  refine We (fun j ρ m=>∃(C':Cell) (J:List Cell) (o2 o3 o4 o5 o6 o7 o8 o9 o10:Option D),YG cs C'∧m=⟨C'::J,[]⟩∧ρ=[some (nums ns),some (.cell (.g 0)),o2,o3,o4,o5,o6,o7,o8,o9,o10])
   ⟨C,[],none,none,none,none,none,none,none,none,none,hC,rfl,rfl⟩ (fun _ _ _ _=>trivial) ?_ ?_
  ·rintro j d hd ρ m ⟨C1,J,o2,o3,o4,o5,o6,o7,o8,o9,o10,hC1,rfl,rfl⟩
   walk_at "ev"
   rw [e6]
   exact Zj3 hC1 fun C' J' y3 y4 y5 y6 y7 y8 y9 y10 hC'=>⟨C',J',_,y3,y4,y5,y6,y7,y8,y9,y10,hC',rfl,rfl⟩
  ·rintro ρ m ⟨C1,J,o2,o3,o4,o5,o6,o7,o8,o9,o10,hC1,rfl,rfl⟩
   walk_at "ev"
 obtain ⟨d,g,e,rfl⟩:=this.get
 exact ⟨g,e⟩
end K10
open PySem PySem.W PyProof.Rows
set_option maxHeartbeats 0 in
theorem PySem.Challenge.cw_plancalls_k10_errors_kept_holds : PySem.Challenge.rw_plancalls_k10_errors_kept.Holds := by
 w_on;o_law;k_head;(case hw=>w_witness2)
 k_fill
 refine L2.Dn.quL (l:=PySem.Challenge.rw_plancalls_k10_errors_kept) (n:=63) (k:=4) (x:="_law_script") (den:=K10.BX) rfl (by decide) rfl ⟨rfl,by decide,by decide⟩ (fun w h Y=>PySem.W.kIn_of Y) ?F (fun ns hl=>K10.qiS ns hl)
 case F =>
  intro w mg fa h KX G hmg
  refine' K10.all_mk KX G hmg ?zaa ?zab ?zac ?zad ?zae ?zaf ?zag ?zah ?zai ?zaj ?zak ?zal ?zam ?zan ?zao ?zap ?zaq ?zar ?zas ?zat ?zau ?zav ?zaw ?zax ?zay ?zaz ?za0 ?za1 ?za2 ?za3 ?za4 ?za5 ?za6 ?za7 ?za8 ?za9 ?zba ?zbb ?zbc ?zbd ?zbe ?zbf ?zbg ?zbh ?zbi ?zbj ?zbk ?zbl ?zbm ?zbn ?zbo ?zbp ?zbq ?zbr ?zbs ?zbt ?zbu ?zbv ?zbw ?zbx ?zby ?zbz ?zb0 ?zb1 ?zb2 ?zb3 ?zb4 ?zb5 ?zb6 ?zb7 ?zb8 ?zb9 ?zca ?zcb ?zcc ?zcd ?zce ?zcf ?zcg ?zch ?zci ?zcj ?zck ?zcl ?zcm ?zcn ?zco ?zcp ?zcq ?zcr ?zcs ?zct ?zcu ?zcv ?zcw ?zcx ?zcy ?zcz ?zc0 ?zc1 ?zc2 ?zc3 ?zc4 ?zc5 ?zc6 ?zc7 ?zc8 ?zc9 ?zda ?zdb ?zdc ?zdd ?zde ?zdf ?zdg ?zdh ?zdi ?zdj ?zdk ?zdl ?zdm ?zdn ?zdo ?zdp ?zdq ?zdr ?zds ?zdt ?zdu ?zdv ?zdw ?zdx ?zdy ?zdz ?zd0 ?zd1 ?zd2 ?zd3 ?zd4 ?zd5 ?zd6 ?zd7 ?zd8 ?zd9 ?zea ?zeb ?zec ?zed ?zee ?zef ?zeg ?zeh ?zei ?zej ?zek ?zel ?zem ?zen ?zeo ?zep ?zeq ?zer ?zes ?zet ?zeu ?zev ?zew ?zex ?zey ?zez ?ze0 ?ze1 ?ze2 ?ze3 ?ze4 ?ze5 ?ze6 ?ze7 ?ze8 ?ze9 ?zfa ?zfb ?zfc ?zfd ?zfe ?zff ?zfg ?zfh ?zfi ?zfj ?zfk ?zfl ?zfm ?zfn ?zfo ?zfp ?zfq ?zfr ?zfs ?zft ?zfu ?zfv ?zfw ?zfx ?zfy ?zfz ?zf0 ?zf1 ?zf2 ?zf3 ?zf4 ?zf5 ?zf6 ?zf7 ?zf8 ?zf9 ?zga ?zgb ?zgc ?zgd ?zge ?zgf ?zgg ?zgh ?zgi ?zgj ?zgk ?zgl ?zgm ?zgn ?zgo ?zgp ?zgq ?zgr ?zgs ?zgt ?zgu ?zgv ?zgw ?zgx ?zgy ?zgz ?zg0 ?zg1 ?zg2 ?zg3 ?zg4 ?zg5 ?zg6 ?zg7 ?zg8 ?zg9 ?zha ?zhb ?zhc ?zhd ?zhe ?zhf ?zhg ?zhh ?zhi ?zhj ?zhk ?zhl ?zhm ?zhn ?zho ?zhp ?zhq ?zhr ?zhs ?zht ?zhu ?zhv ?zhw ?zhx ?zhy ?zhz ?zh0 ?zh1 ?zh2 ?zh3 ?zh4 ?zh5 ?zh6 ?zh7 ?zh8 ?zh9 ?zia ?zib ?zic ?zid ?zie ?zif ?zig ?zih ?zii ?zij ?zik ?zil ?zim ?zin ?zio ?zip ?ziq ?zir ?zis ?zit ?ziu ?ziv ?ziw ?zix ?ziy ?ziz ?zi0 ?zi1 ?zi2 ?zi3 ?zi4 ?zi5 ?zi6 ?zi7 ?zi8 ?zi9 ?zja ?zjb ?zjc ?zjd ?zje ?zjf ?zjg ?zjh ?zji ?zjj ?zjk ?zjl ?zjm ?zjn ?zjo ?zjp ?zjq ?zjr ?zjs ?zjt ?zju ?zjv ?zjw ?zjx ?zjy ?zjz ?zj0 ?zj1 ?zj2 ?zj3 ?zj4 ?zj5 ?zj6 ?zj7 ?zj8 ?zj9 ?zka ?zkb ?zkc ?zkd ?zke ?zkf ?zkg ?zkh ?zki ?zkj ?zkk ?zkl ?zkm ?zkn ?zko ?zkp ?zkq ?zkr ?zks ?zkt ?zku ?zkv ?zkw ?zkx ?zky ?zkz ?zk0 ?zk1 ?zk2 ?zk3 ?zk4 ?zk5 ?zk6 ?zk7 ?zk8 ?zk9 ?zla ?zlb ?zlc ?zld ?zle ?zlf ?zlg ?zlh ?zli ?zlj ?zlk ?zll ?zlm ?zln ?zlo ?zlp ?zlq ?zlr ?zls ?zlt ?zlu ?zlv ?zlw ?zlx ?zly ?zlz ?zl0 ?zl1 ?zl2 ?zl3 ?zl4 ?zl5 ?zl6 ?zl7 ?zl8 ?zl9 ?zma ?zmb ?zmc ?zmd ?zme ?zmf ?zmg ?zmh ?zmi ?zmj ?zmk ?zml ?zmm ?zmn ?zmo ?zmp ?zmq ?zmr ?zms ?zmt ?zmu ?zmv ?zmw ?zmx ?zmy ?zmz ?zm0 ?zm1 ?zm2 ?zm3 ?zm4 ?zm5 ?zm6 ?zm7 ?zm8 ?zm9 ?zna ?znb ?znc ?znd ?zne ?znf ?zng ?znh ?zni ?znj ?znk ?znl ?znm ?znn ?zno ?znp ?znq ?znr ?zns ?znt ?znu ?znv ?znw ?znx ?zny ?znz ?zn0 ?zn1 ?zn2 ?zn3 ?zn4 ?zn5 ?zn6 ?zn7 ?zn8 ?zn9 ?zoa ?zob ?zoc ?zod ?zoe ?zof ?zog ?zoh ?zoi ?zoj ?zok ?zol ?zom ?zon ?zoo ?zop ?zoq ?zor ?zos ?zot ?zou ?zov ?zow ?zox ?zoy ?zoz ?zo0 ?zo1 ?zo2 ?zo3 ?zo4 ?zo5 ?zo6 ?zo7 ?zo8 ?zo9 ?zpa ?zpb ?zpc ?zpd ?zpe ?zpf ?zpg ?zph ?zpi ?zpj ?zpk ?zpl ?zpm ?zpn ?zpo ?zpp ?zpq ?zpr ?zps ?zpt ?zpu ?zpv ?zpw ?zpx ?zpy ?zpz ?zp0 ?zp1 ?zp2 ?zp3 ?zp4 ?zp5 ?zp6 ?zp7 ?zp8 ?zp9 ?zqa ?zqb ?zqc ?zqd ?zqe ?zqf ?zqg ?zqh ?zqi ?zqj ?zqk ?zql ?zqm ?zqn ?zqo ?zqp ?zqq
  (case za6 | za7 | za8 | za9 | zba | zbb | zbc | zbd | zbe | zbf | zbg | zbh | zbi | zbj | zbk | zbl | zbm | zbn | zbo | zbp | zbq | zbr | zbs | zbt | zbu | zbv | zbw | zbx | zby | zaa | zab | zac | zad | zae | zaf | zag | zah | zai | zaj | zak | zal | zam | zan | zao | zap | zaq | zar | zas | zat | zau | zav | zaw | zax | zay | zaz | za0 | za1 | za2 | za3 | za4=>k_is)
  (case za5 | zbz=>k_is)
  (case zb0=>decide +kernel)
  (case zb1 | zb2 | zb3 | zb4 | zb5 | zb6 | zb7 | zb8 | zb9 | zca=>k_is)
  (case zcb=>decide +kernel)
  (case zcc | zcd | zce | zcf | zcg | zch | zci | zcj | zck | zcl=>k_is)
  (case zcm=>decide +kernel)
  (case zcn | zco | zcp | zcq | zcr | zcs | zct | zcu | zcv | zcw=>k_is)
  (case zcx=>decide +kernel)
  (case zcy | zcz | zc0 | zc1 | zc2 | zc3 | zc4 | zc5 | zc6 | zc7=>k_is)
  (case zc8=>decide +kernel)
  (case zc9 | zda | zdb | zdc | zdd | zde | zdf | zdg | zdh | zdi=>k_is)
  (case zdj=>decide +kernel)
  (case zdk | zdl | zdm | zdn | zdo | zdp | zdq | zdr | zds | zdt=>k_is)
  (case zdu=>decide +kernel)
  (case zdv | zdw | zdx | zdy | zdz | zd0 | zd1 | zd2 | zd3 | zd4=>k_is)
  (case zd5=>decide +kernel)
  (case zd6 | zd7 | zd8 | zd9 | zea | zeb | zec | zed | zee | zef=>k_is)
  (case zeg=>decide +kernel)
  (case zeh | zei | zej | zek | zel | zem | zen | zeo | zep | zeq=>k_is)
  (case zer=>decide +kernel)
  (case zes | zet | zeu | zev | zew | zex | zey | zez | ze0 | ze1=>k_is)
  (case ze2=>decide +kernel)
  (case ze3 | ze4 | ze5 | ze6 | ze7 | ze8 | ze9 | zfa | zfb | zfc=>k_is)
  (case zfd=>decide +kernel)
  (case zfe | zff | zfg | zfh | zfi | zfj | zfk | zfl | zfm | zfn=>k_is)
  (case zfo=>decide +kernel)
  (case zfp | zfq | zfr | zfs | zft | zfu | zfv | zfw | zfx | zfy=>k_is)
  (case zfz=>decide +kernel)
  (case zf0 | zf1 | zf2 | zf3 | zf4 | zf5 | zf6 | zf7 | zf8 | zf9=>k_is)
  (case zga=>decide +kernel)
  (case zgb | zgc | zgd | zge | zgf | zgg | zgh | zgi | zgj | zgk=>k_is)
  (case zgl=>decide +kernel)
  (case zgm | zgn | zgo | zgp | zgq | zgr | zgs | zgt | zgu | zgv=>k_is)
  (case zgw=>decide +kernel)
  (case zgx | zgy | zgz | zg0 | zg1 | zg2 | zg3 | zg4 | zg5 | zg6=>k_is)
  (case zg7=>decide +kernel)
  (case zg8 | zg9 | zha | zhb | zhc | zhd | zhe | zhf | zhg | zhh=>k_is)
  (case zhi=>decide +kernel)
  (case zhj | zhk | zhl | zhm | zhn | zho | zhp | zhq | zhr | zhs=>k_is)
  (case zht=>decide +kernel)
  (case zhu | zhv | zhw | zhx | zhy | zhz | zh0 | zh1 | zh2 | zh3=>k_is)
  (case zh4=>decide +kernel)
  (case zh5 | zh6 | zh7 | zh8 | zh9 | zia | zib | zic | zid | zie=>k_is)
  (case zif=>decide +kernel)
  (case zig | zih | zii | zij | zik | zil | zim | zin | zio | zip=>k_is)
  (case ziq=>decide +kernel)
  (case zir | zis | zit | ziu | ziv | ziw | zix | ziy | ziz | zi0=>k_is)
  (case zi1=>decide +kernel)
  (case zi2 | zi3 | zi4 | zi5 | zi6 | zi7 | zi8 | zi9 | zja | zjb=>k_is)
  (case zjc=>decide +kernel)
  (case zjd | zje | zjf | zjg | zjh | zji | zjj | zjk | zjl | zjm=>k_is)
  (case zjn=>decide +kernel)
  (case zjo | zjp | zjq | zjr | zjs | zjt | zju | zjv | zjw | zjx=>k_is)
  (case zjy=>decide +kernel)
  (case zjz | zj0 | zj1 | zj2 | zj3 | zj4 | zj5 | zj6 | zj7 | zj8=>k_is)
  (case zj9=>decide +kernel)
  (case zka | zkb | zkc | zkd | zke | zkf | zkg | zkh | zki | zkj=>k_is)
  (case zkk=>decide +kernel)
  (case zkl | zkm | zkn | zko | zkp | zkq | zkr | zks | zkt | zku | zkv | zkw | zkx | zky | zkz | zk0 | zk1 | zk2 | zk3 | zk4 | zk5 | zk6 | zk7 | zk8 | zk9 | zla | zlb | zlc | zld | zle | zlf | zlg | zlh | zli | zlj | zlk | zll | zlm | zln | zlo | zlp | zlq | zlr | zls | zlt | zlu | zlv | zlw | zlx | zly | zlz | zl0 | zl1 | zl2 | zl3 | zl4 | zl5 | zl6 | zl7 | zl8=>k_is)
  (case zl9 | zma | zmb | zmc | zmd | zme | zmf | zmg | zmh | zmi | zmj | zmk | zml | zmm | zmn | zmo | zmp | zmq | zmr | zms | zmt | zmu | zmv | zmw | zmx | zmy | zmz | zm0 | zm1 | zm2 | zm3 | zm4 | zm5 | zm6 | zm7 | zm8 | zm9 | zna | znb | znc | znd | zne | znf | zng | znh | zni | znj | znk | znl | znm | znn | zno | znp | znq | znr | zns | znt | znu | znv | znw=>k_is)
  (case znx | zny | znz | zn0 | zn1 | zn2 | zn3 | zn4 | zn5 | zn6 | zn7 | zn8 | zn9 | zoa | zob | zoc | zod | zoe | zof | zog | zoh | zoi | zoj | zok | zol | zom | zon | zoo | zop | zoq | zor | zos | zot | zou | zov | zow | zox | zoy | zoz | zo0 | zo1 | zo2 | zo3 | zo4 | zo5 | zo6 | zo7 | zo8 | zo9 | zpa | zpb | zpc | zpd | zpe | zpf | zpg | zph | zpi | zpj | zpk=>k_is)
  (case zpl=>k_is)
  (case zpm | zpn | zpo | zpp | zpq | zpr | zps | zpt | zpu | zpv | zpw | zpx | zpy | zpz | zp0 | zp1 | zp2 | zp3 | zp4 | zp5 | zp6 | zp7 | zp8 | zp9 | zqa | zqb | zqc | zqd | zqe=>decide +kernel)
  (case zqf=>first | k_exc | rfl)
  (case zqg | zqh | zqi | zqj | zqk | zql | zqm | zqn | zqo | zqp | zqq=>k_is)
  (all_goals exact .none)
